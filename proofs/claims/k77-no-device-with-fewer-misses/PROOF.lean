import PyProof.Rows.All
import HandS.ForMost
import HandS.Deep
import HandS.TupAny
import HandS.TupMul
import HandS.IsInst
import HandS.Flow
import HandS.Conv
import HandS.Star
import KE.KDictKeyed
import HandS.SetKeys
import HandS.RaiseMore
import HandS.Strs
import PyProof.FactsAll.list
import HandS.NoneIn
import HandS.Style
import HandS.Zip
import KE.GoesMore
import PyProof.ListStr
import KE.KDictDisplayH
import HandS.Small
import HandS.WordsDict
import KE.KDictCopyH
import HandS.Iter
import HandS.Remove
import PyProof.Rows.SetFrom
import HandS.Property
import HandS.SortKw
import PyProof.Rows.SetObj
import PySem.Challenge.RW_missbounds_k77_whole_no_device_with_fewe
set_option Elab.async false
set_option linter.all false
set_option maxRecDepth 100000
set_option maxHeartbeats 4000000
/-! text Z1 -/
namespace Zl
open PySem L2

/-! ## Data, memory, the relation to the abstract heap -/
inductive Dv where
  | non
  | bl (b : Bool)
  | int (i : Int)
  | str (x : Str)
  | tup (xs : List Dv)
  | loc (n : Nat)
  | rol (xs : List Dv)
  | ty (n : String)
  | pr (xs : List Dv)
  deriving Inhabited

inductive Ob where
  | lst (xs : List Dv)
  | ins (c : Nat) (fs : List (Str × Dv))
  | dct (kvs : List (Key × Dv))
  | dcn (kvs : List (NestedKey × Dv × Dv))
  | st (xs : List Int)
  | sk (xs : List Str)
  deriving Inhabited
/-- the classes' places; the program, the world -/
structure Ct where
  cls : Nat → Option Addr
  prg : Program
  wd : World
instance : CoeFun Ct (fun _ => Nat → Option Addr) := ⟨Ct.cls⟩
/-- keys that are tuples, nested -/
def nkL (f : Dv → Option NestedKey) : List Dv → Option (List NestedKey)
  | [] => some []
  | x :: xs => match f x with
    | some k => match nkL f xs with
      | some ks => some (k :: ks)
      | none => none
    | none => none
def nkN : Nat → Dv → Option NestedKey
  | _, .non => some .none
  | _, .bl b => some (.num (if b then 1 else 0))
  | _, .int i => some (.num i)
  | _, .str x => some (.text x)
  | _, .loc _ => none
  | _, .rol _ => none
  | _, .ty _ => none
  | _, .pr _ => none
  | 0, .tup _ => none
  | n + 1, .tup xs => match nkL (nkN n) xs with
    | some ks => some (.tup ks)
    | none => none
def keyN : Dv → Option NestedKey
  | .tup xs => nkN 8 (.tup xs)
  | _ => none
/-- a dict with such keys: where the keys stand, the values -/
def RawN (P : Program) (w : World) (h : Heap) (a : Addr) (xs : List (NestedKey × Addr × Value)) : Prop :=
  ∃ o es ep, h.get? a = some o ∧ o.ExactDict ∧ o.data = .dict es ep ∧ es.toList = xs.map (entryOfKey (nestedKind P w)) ∧ (xs.map (·.1)).Nodup ∧ xs.length ≤ sizeLine ∧ (a == sysModules) = false
def NDic (P : Program) (w : World) (a : Addr) (xs : List (NestedKey × Addr × Value)) : HO := .ext fun h => RawN P w h a xs

abbrev Mem := List Ob
abbrev En := List (Option Dv)
abbrev Frg := PySem.W.Frag

/-- a list that nothing here writes: locked, or of the written part -/
def SqF (K : Frg) (H : Hp) (a : Addr) (xs : List V) : Prop :=
  (∃ o, H a = some (.frz o (.lst xs))) ∨ ((∀ H' : Hp, SqL K H' a xs) ∧ ∃ o : Obj, K.lookup a = some o ∧ o.cls = .type "list")
theorem SqF.sq {K : Frg} {H : Hp} {a : Addr} {xs : List V} (h : SqF K H a xs) : SqL K H a xs := by
  rcases h with ⟨o, h⟩ | ⟨h, _⟩
  · exact .inl (.inr ⟨o, h⟩)
  · exact h H

/-- a tuple without a dict of its own: locked, or of the written part -/
def TupD (K : Frg) (H : Hp) (a : Addr) (xs : List V) : Prop :=
  (∃ o : Obj, H a = some (.frz o (.tup xs)) ∧ o.dict = none) ∨
    ∃ (o : Obj) (its : Array Value) (n : Nat), K.lookup a = some o ∧ o.cls = .type "tuple" ∧ o.dict = none ∧ o.data = .seq its n ∧ its.size ≤ sizeLine ∧ Vals xs its.toList
theorem TupD.sq {K : Frg} {H : Hp} {a : Addr} {xs : List V} (h : TupD K H a xs) : SqT K H a xs := by
  rcases h with ⟨o, h, _⟩ | ⟨o, its, n, h1, h2, _, h3, h4, h5⟩
  · exact .inl (.inr ⟨o, h⟩)
  · exact .inr ⟨o, its, n, h1, h2, h3, h4, h5⟩

mutual
inductive DV (K : Frg) (ρ : List Addr) (H : Hp) : Dv → V → Prop
  | non : DV K ρ H .non .non
  | bl (b : Bool) : DV K ρ H (.bl b) (.bl b)
  | int (i : Int) : DV K ρ H (.int i) (.int i)
  | str (x : Str) : DV K ρ H (.str x) (.str x)
  | tup {ds : List Dv} {vs : List V} {a : Addr} : TupD K H a vs → DVs K ρ H ds vs → DV K ρ H (.tup ds) (.ref a)
  | loc {n : Nat} {a : Addr} : ρ[n]? = some a → DV K ρ H (.loc n) (.ref a)
  | rol {ds : List Dv} {vs : List V} {a : Addr} : SqF K H a vs → DVs K ρ H ds vs → DV K ρ H (.rol ds) (.ref a)
  | ty (n : String) : DV K ρ H (.ty n) (.ty n)
  | pr {ds : List Dv} {vs : List V} {a : Addr} : SqT K H a vs → DVs K ρ H ds vs → DV K ρ H (.pr ds) (.ref a)
inductive DVs (K : Frg) (ρ : List Addr) (H : Hp) : List Dv → List V → Prop
  | nil : DVs K ρ H [] []
  | cons {d : Dv} {v : V} {ds : List Dv} {vs : List V} : DV K ρ H d v → DVs K ρ H ds vs → DVs K ρ H (d :: ds) (v :: vs)
end

structure Ext (K : Frg) (ρ : List Addr) (H : Hp) (ρ' : List Addr) (H' : Hp) : Prop where
  pre : ∀ (n : Nat) (a : Addr), ρ[n]? = some a → ρ'[n]? = some a
  tup : ∀ a vs, SqT K H a vs → SqT K H' a vs
  frz : ∀ a o u, H a = some (.frz o u) → H' a = some (.frz o u)
theorem Ext.refl {K : Frg} {ρ : List Addr} {H : Hp} : Ext K ρ H ρ H := ⟨fun _ _ h => h, fun _ _ h => h, fun _ _ _ h => h⟩
theorem Ext.trans {K : Frg} {ρ ρ1 ρ2 : List Addr} {H H1 H2 : Hp} (a : Ext K ρ H ρ1 H1) (b : Ext K ρ1 H1 ρ2 H2) : Ext K ρ H ρ2 H2 :=
  ⟨fun n x h => b.pre n x (a.pre n x h), fun x vs h => b.tup x vs (a.tup x vs h), fun x o u h => b.frz x o u (a.frz x o u h)⟩
theorem TupD.mono {K : Frg} {ρ ρ' : List Addr} {H H' : Hp} {a : Addr} {xs : List V} (h : TupD K H a xs) (e : Ext K ρ H ρ' H') : TupD K H' a xs := by
  rcases h with ⟨o, h, z⟩ | h
  · exact .inl ⟨o, e.frz _ _ _ h, z⟩
  · exact .inr h
theorem TupD.new {K : Frg} {H : Hp} {p : Addr} {o : Obj} {xs : List V} (z : o.dict = none) : TupD K (upd H p (.frz o (.tup xs))) p xs := .inl ⟨o, upd_same, z⟩
theorem SqF.mono {K : Frg} {ρ ρ' : List Addr} {H H' : Hp} {a : Addr} {xs : List V} (h : SqF K H a xs) (e : Ext K ρ H ρ' H') : SqF K H' a xs := by
  rcases h with ⟨o, h⟩ | h
  · exact .inl ⟨o, e.frz _ _ _ h⟩
  · exact .inr h

section
variable {K : Frg} {ρ ρ' : List Addr} {H H' : Hp}
mutual
theorem DV.mono (e : Ext K ρ H ρ' H') : ∀ {d : Dv} {v : V}, DV K ρ H d v → DV K ρ' H' d v
  | _, _, .non => .non
  | _, _, .bl b => .bl b
  | _, _, .int i => .int i
  | _, _, .str x => .str x
  | _, _, .tup h r => .tup (h.mono e) (DVs.mono e r)
  | _, _, .pr h r => .pr (e.tup _ _ h) (DVs.mono e r)
  | _, _, .loc h => .loc (e.pre _ _ h)
  | _, _, .rol h r => .rol (h.mono e) (DVs.mono e r)
  | _, _, .ty n => .ty n
theorem DVs.mono (e : Ext K ρ H ρ' H') : ∀ {ds : List Dv} {vs : List V}, DVs K ρ H ds vs → DVs K ρ' H' ds vs
  | _, _, .nil => .nil
  | _, _, .cons h r => .cons (DV.mono e h) (DVs.mono e r)
end
theorem DVs.length : ∀ {ds : List Dv} {vs : List V}, DVs K ρ H ds vs → ds.length = vs.length
  | _, _, .nil => rfl
  | _, _, .cons _ r => by rw [List.length_cons, List.length_cons, DVs.length r]
theorem DVs.append : ∀ {ds es : List Dv} {vs ws : List V}, DVs K ρ H ds vs → DVs K ρ H es ws → DVs K ρ H (ds ++ es) (vs ++ ws)
  | _, _, _, _, .nil, s => s
  | _, _, _, _, .cons h r, s => .cons h (DVs.append r s)
theorem DVs.get : ∀ {ds : List Dv} {vs : List V} {i : Nat} {d : Dv}, DVs K ρ H ds vs → ds[i]? = some d → ∃ v, vs[i]? = some v ∧ DV K ρ H d v
  | _, _, _, _, .nil, e => by simp at e
  | _, _, 0, _, .cons h _, e => by simp at e; subst e; exact ⟨_, rfl, h⟩
  | _, _, i + 1, d, .cons _ r, e => by
    obtain ⟨u, h1, h2⟩ := DVs.get (i := i) (d := d) r (by simpa using e)
    exact ⟨u, by simpa using h1, h2⟩
theorem DVs.set {x : Dv} {u : V} (h : DV K ρ H x u) : ∀ {ds : List Dv} {vs : List V} (i : Nat), DVs K ρ H ds vs → DVs K ρ H (ds.set i x) (vs.set i u)
  | _, _, _, .nil => .nil
  | _, _, 0, .cons _ t => .cons h t
  | _, _, i + 1, .cons q t => .cons q (DVs.set h i t)
theorem DVs.take : ∀ {ds : List Dv} {vs : List V} (n : Nat), DVs K ρ H ds vs → DVs K ρ H (ds.take n) (vs.take n)
  | _, _, 0, _ => .nil
  | _, _, _ + 1, .nil => .nil
  | _, _, n + 1, .cons r t => .cons r (DVs.take n t)
theorem DVs.drop : ∀ {ds : List Dv} {vs : List V} (n : Nat), DVs K ρ H ds vs → DVs K ρ H (ds.drop n) (vs.drop n)
  | _, _, 0, r => r
  | _, _, _ + 1, .nil => .nil
  | _, _, n + 1, .cons _ t => DVs.drop n t
theorem DVs.rep {ds : List Dv} {vs : List V} (h : DVs K ρ H ds vs) : ∀ k : Nat, DVs K ρ H (List.replicate k ds).flatten (List.replicate k vs).flatten
  | 0 => .nil
  | k + 1 => by
    rw [List.replicate_succ, List.replicate_succ, List.flatten_cons, List.flatten_cons]
    exact DVs.append h (DVs.rep h k)
end

/-- an instance's attributes -/
def FV (K : Frg) (ρ : List Addr) (H : Hp) (fs : List (Str × Dv)) (vfs : List (Str × V)) : Prop :=
  fs.map (·.1) = vfs.map (·.1) ∧ DVs K ρ H (fs.map (·.2)) (vfs.map (·.2))
def ObOk (K : Frg) (ct : Ct) (ρ : List Addr) (H : Hp) (a : Addr) : Ob → Prop
  | .lst ds => ∃ vs, H a = some (.lst vs) ∧ DVs K ρ H ds vs
  | .ins c fs => ∃ C dx vfs, ct c = some C ∧ H a = some (.ins C dx vfs) ∧ FV K ρ H fs vfs
  | .dct kvs => ∃ vs : List (Key × V), H a = some (.dK vs) ∧ kvs.map (·.1) = vs.map (·.1) ∧ DVs K ρ H (kvs.map (·.2)) (vs.map (·.2))
  | .dcn kvs => ∃ (xs : List (NestedKey × Addr × Value)) (vs : List V), H a = some (NDic ct.prg ct.wd a xs) ∧ kvs.map (·.1) = xs.map (·.1) ∧ (∀ p ∈ kvs, keyN p.2.1 = some p.1) ∧
      DVs K ρ H (kvs.map (·.2.1)) (xs.map fun x => V.ref x.2.1) ∧ DVs K ρ H (kvs.map (·.2.2)) vs ∧ Vals vs (xs.map (·.2.2))
  | .st xs => H a = some (.set (fun k => xs.any (· == k)) xs.length)
  | .sk xs => H a = some (SetK ct.prg ct.wd a (fun k => xs.any fun x => decide (k = Sum.inr x)) xs.length)
structure Rl (K : Frg) (ct : Ct) (ρ : List Addr) (M : Mem) (H : Hp) : Prop where
  len : ρ.length = M.length
  nd : ρ.Nodup
  ok : ∀ (n : Nat) o, M[n]? = some o → ∃ a, ρ[n]? = some a ∧ ObOk K ct ρ H a o
def EnOk (K : Frg) (ρ : List Addr) (H : Hp) (env : En) (σ : St) : Prop :=
  env.length = σ.length ∧ ∀ (i : Nat) d, env[i]? = some (some d) → ∃ v, σ[i]? = some (some v) ∧ DV K ρ H d v

section
variable {K : Frg} {ct : Ct} {ρ ρ' : List Addr} {M : Mem} {H H' : Hp} {a p : Addr}
theorem FV.mono {fs : List (Str × Dv)} {vfs : List (Str × V)} (h : FV K ρ H fs vfs) (e : Ext K ρ H ρ' H') : FV K ρ' H' fs vfs := ⟨h.1, h.2.mono e⟩
theorem ObOk.mono {o : Ob} (h : ObOk K ct ρ H a o) (e : Ext K ρ H ρ' H') (q : H' a = H a) : ObOk K ct ρ' H' a o := by
  cases o with
  | lst ds => obtain ⟨vs, h1, h2⟩ := h; exact ⟨vs, q.trans h1, h2.mono e⟩
  | ins c fs => obtain ⟨C, dx, vfs, h0, h1, h2⟩ := h; exact ⟨C, dx, vfs, h0, q.trans h1, h2.mono e⟩
  | dct kvs => obtain ⟨vs, h1, h2, h3⟩ := h; exact ⟨vs, q.trans h1, h2, h3.mono e⟩
  | dcn kvs => obtain ⟨xs, vs, h1, h2, h3, h4, h5, h6⟩ := h; exact ⟨xs, vs, q.trans h1, h2, h3, h4.mono e, h5.mono e, h6⟩
  | st xs => exact q.trans h
  | sk xs => exact q.trans h
theorem ObOk.there {o : Ob} (h : ObOk K ct ρ H a o) : H a ≠ none := by
  cases o with
  | lst ds => obtain ⟨vs, h1, h2⟩ := h; rw [h1]; simp
  | ins c fs => obtain ⟨C, dx, vfs, h0, h1, h2⟩ := h; rw [h1]; simp
  | dct kvs => obtain ⟨vs, h1, h2, h3⟩ := h; rw [h1]; simp
  | dcn kvs => obtain ⟨xs, vs, h1, h2⟩ := h; rw [h1]; simp
  | st xs => rw [show H a = _ from h]; simp
  | sk xs => rw [show H a = _ from h]; simp
theorem ObOk.soft {o : Ob} (h : ObOk K ct ρ H a o) : (∀ vs, H a ≠ some (.tup vs)) ∧ ∀ o u, H a ≠ some (.frz o u) := by
  cases o with
  | lst ds => obtain ⟨vs, h1, h2⟩ := h; rw [h1]; exact ⟨fun _ q => (by cases q), fun _ _ q => (by cases q)⟩
  | ins c fs => obtain ⟨C, dx, vfs, h0, h1, h2⟩ := h; rw [h1]; exact ⟨fun _ q => (by cases q), fun _ _ q => (by cases q)⟩
  | dct kvs => obtain ⟨vs, h1, h2, h3⟩ := h; rw [h1]; exact ⟨fun _ q => (by cases q), fun _ _ q => (by cases q)⟩
  | dcn kvs => obtain ⟨xs, vs, h1, h2⟩ := h; rw [h1]; exact ⟨fun _ q => (by cases q), fun _ _ q => (by cases q)⟩
  | st xs => rw [show H a = _ from h]; exact ⟨fun _ q => (by cases q), fun _ _ q => (by cases q)⟩
  | sk xs => rw [show H a = _ from h]; exact ⟨fun _ q => (by cases q), fun _ _ q => (by cases q)⟩
theorem EnOk.mono {env : En} {σ : St} (h : EnOk K ρ H env σ) (e : Ext K ρ H ρ' H') : EnOk K ρ' H' env σ :=
  ⟨h.1, fun i d q => let ⟨v, h1, h2⟩ := h.2 i d q; ⟨v, h1, h2.mono e⟩⟩
theorem EnOk.set {env : En} {σ : St} {d : Dv} {v : V} (h : EnOk K ρ H env σ) (i : Nat) (r : DV K ρ H d v) : EnOk K ρ H (env.set i (some d)) (σ.set i (some v)) := by
  refine ⟨by simp [h.1], fun j x q => ?_⟩
  by_cases hij : i = j
  · subst hij
    rw [List.getElem?_set] at q
    by_cases hl : i < env.length
    · rw [if_pos rfl, if_pos hl] at q
      cases q
      exact ⟨v, by rw [List.getElem?_set, if_pos rfl, if_pos (h.1 ▸ hl)], r⟩
    · rw [if_pos rfl, if_neg hl] at q; cases q
  · rw [List.getElem?_set_ne hij] at q
    obtain ⟨u, h1, h2⟩ := h.2 j x q
    exact ⟨u, by rw [List.getElem?_set_ne hij]; exact h1, h2⟩
theorem sqT_soft {vs : List V} {o' : HO} (h : SqT K H p vs) (ht : ∀ vs, H a ≠ some (.tup vs)) (hf : ∀ o u, H a ≠ some (.frz o u)) : SqT K (upd H a o') p vs := by
  rcases h with (h | ⟨o, h⟩) | h
  · have ne : p ≠ a := fun e => ht vs (e ▸ h)
    exact .inl (.inl (by rw [upd_ne ne]; exact h))
  · have ne : p ≠ a := fun e => hf o _ (e ▸ h)
    exact .inl (.inr ⟨o, by rw [upd_ne ne]; exact h⟩)
  · exact .inr h
theorem Ext.soft {o' : HO} (hp : ∀ (n : Nat) (a : Addr), ρ[n]? = some a → ρ'[n]? = some a) (ht : ∀ vs, H a ≠ some (.tup vs)) (hf : ∀ o u, H a ≠ some (.frz o u)) : Ext K ρ H ρ' (upd H a o') :=
  ⟨hp, fun b vs h => sqT_soft h ht hf, fun b o u h => by
    have ne : b ≠ a := fun e => hf o u (e ▸ h)
    rw [upd_ne ne]; exact h⟩
theorem Ext.fresh {o' : HO} (hn : H p = none) : Ext K ρ H ρ (upd H p o') :=
  Ext.soft (fun _ _ h => h) (fun _ q => by rw [hn] at q; cases q) fun _ _ q => by rw [hn] at q; cases q
theorem Rl.addr (r : Rl K ct ρ M H) {n : Nat} (h : ρ[n]? = some a) : ∃ o, M[n]? = some o ∧ ObOk K ct ρ H a o := by
  have hl : n < M.length := by
    rw [← r.len]
    exact (List.getElem?_eq_some_iff.mp h).1
  obtain ⟨b, h1, h2⟩ := r.ok n M[n] (List.getElem?_eq_getElem hl)
  rw [h] at h1; cases h1
  exact ⟨_, List.getElem?_eq_getElem hl, h2⟩
theorem Rl.ne (r : Rl K ct ρ M H) {n : Nat} (h : ρ[n]? = some a) (hn : H p = none) : a ≠ p := by
  obtain ⟨o, _, q⟩ := r.addr h
  intro e; subst e
  exact q.there hn
theorem Rl.tup (r : Rl K ct ρ M H) (hn : H p = none) (o' : HO) : Rl K ct ρ M (upd H p o') :=
  ⟨r.len, r.nd, fun n o h => by
    obtain ⟨b, h1, h2⟩ := r.ok n o h
    exact ⟨b, h1, h2.mono (Ext.fresh hn) (upd_ne (r.ne h1 hn))⟩⟩
theorem pre_app {p : Addr} : ∀ (n : Nat) (a : Addr), ρ[n]? = some a → (ρ ++ [p])[n]? = some a := fun n a h => by
  rw [List.getElem?_append_left (List.getElem?_eq_some_iff.mp h).1]; exact h
theorem Rl.notin (r : Rl K ct ρ M H) (hn : H p = none) : p ∉ ρ := fun hm => by
  obtain ⟨n, hn'⟩ := List.getElem?_of_mem hm
  exact r.ne hn' hn rfl
/-- a new cell -/
theorem Rl.new (r : Rl K ct ρ M H) {o : Ob} {o' : HO} (hn : H p = none) (ho : ObOk K ct (ρ ++ [p]) (upd H p o') p o) :
    Rl K ct (ρ ++ [p]) (M ++ [o]) (upd H p o') ∧ Ext K ρ H (ρ ++ [p]) (upd H p o') ∧ (ρ ++ [p])[M.length]? = some p := by
  have ex : Ext K ρ H (ρ ++ [p]) (upd H p o') := Ext.soft pre_app (fun _ q => by rw [hn] at q; cases q) fun _ _ q => by rw [hn] at q; cases q
  refine ⟨⟨by simp [r.len], ?_, fun n x h => ?_⟩, ex, by rw [← r.len]; simp⟩
  · rw [List.nodup_append]
    refine ⟨r.nd, by simp, fun x hx y hy e => ?_⟩
    have e2 : y = p := by simpa using hy
    subst e2; subst e
    exact r.notin hn hx
  · by_cases hl : n < M.length
    · rw [List.getElem?_append_left hl] at h
      obtain ⟨b, h1, h2⟩ := r.ok n x h
      exact ⟨b, pre_app n b h1, h2.mono ex (upd_ne (r.ne h1 hn))⟩
    · have hl2 : n = M.length := by
        have := (List.getElem?_eq_some_iff.mp h).1
        simp at this; omega
      subst hl2
      simp at h; subst h
      exact ⟨p, by rw [← r.len]; simp, ho⟩
/-- a cell written -/
theorem Rl.put (r : Rl K ct ρ M H) {n : Nat} {o : Ob} {o' : HO} (h : ρ[n]? = some a) (ho : ObOk K ct ρ (upd H a o') a o) :
    Rl K ct ρ (M.set n o) (upd H a o') ∧ Ext K ρ H ρ (upd H a o') := by
  obtain ⟨oo, hm, hk⟩ := r.addr h
  have ex : Ext K ρ H ρ (upd H a o') := Ext.soft (fun _ _ h => h) hk.soft.1 hk.soft.2
  refine ⟨⟨by simp [r.len], r.nd, fun m x hx => ?_⟩, ex⟩
  by_cases hmn : n = m
  · subst hmn
    rw [List.getElem?_set, if_pos rfl] at hx
    have hl := (List.getElem?_eq_some_iff.mp hm).1
    rw [if_pos hl] at hx
    cases hx
    exact ⟨a, h, ho⟩
  · rw [List.getElem?_set_ne hmn] at hx
    obtain ⟨b, h1, h2⟩ := r.ok m x hx
    refine ⟨b, h1, h2.mono ex (upd_ne fun e => ?_)⟩
    subst e
    obtain ⟨i1, e1⟩ := List.getElem?_eq_some_iff.mp h1
    obtain ⟨i2, e2⟩ := List.getElem?_eq_some_iff.mp h
    exact hmn ((List.getElem_inj r.nd).mp (e2.trans e1.symm))
theorem Rl.newL (r : Rl K ct ρ M H) {ds : List Dv} {vs : List V} (hn : H p = none) (hd : DVs K ρ H ds vs) :
    Rl K ct (ρ ++ [p]) (M ++ [.lst ds]) (upd H p (.lst vs)) ∧ Ext K ρ H (ρ ++ [p]) (upd H p (.lst vs)) ∧ (ρ ++ [p])[M.length]? = some p := by
  refine r.new hn ⟨vs, upd_same, hd.mono (Ext.soft pre_app (fun _ q => by rw [hn] at q; cases q) fun _ _ q => by rw [hn] at q; cases q)⟩
theorem Rl.putL (r : Rl K ct ρ M H) {n : Nat} {ds : List Dv} {vs : List V} (h : ρ[n]? = some a) (hd : DVs K ρ H ds vs) :
    Rl K ct ρ (M.set n (.lst ds)) (upd H a (.lst vs)) ∧ Ext K ρ H ρ (upd H a (.lst vs)) := by
  obtain ⟨oo, hm, hk⟩ := r.addr h
  exact r.put h ⟨vs, upd_same, hd.mono (Ext.soft (fun _ _ h => h) hk.soft.1 hk.soft.2)⟩
theorem Rl.lst (r : Rl K ct ρ M H) {n : Nat} {ds : List Dv} (hm : M[n]? = some (.lst ds)) {v : V} (hv : DV K ρ H (.loc n) v) :
    ∃ a vs, v = .ref a ∧ ρ[n]? = some a ∧ H a = some (.lst vs) ∧ DVs K ρ H ds vs := by
  obtain ⟨a, h1, vs, h2, h3⟩ := r.ok n _ hm
  cases hv with
  | loc h => rw [h] at h1; cases h1; exact ⟨_, vs, rfl, h, h2, h3⟩
end

/-! ## The judgements -/
def bnd {α β : Type} (r : Option (α × Mem)) (k : α → Mem → Option (β × Mem)) : Option (β × Mem) :=
  match r with
  | none => none
  | some (a, M) => k a M
theorem bnd_some {α β : Type} {r : Option (α × Mem)} {k : α → Mem → Option (β × Mem)} {y : β × Mem} (h : bnd r k = some y) : ∃ a M, r = some (a, M) ∧ k a M = some y := by
  cases r with
  | none => cases h
  | some p => exact ⟨p.1, p.2, rfl, h⟩

abbrev FE := En → Mem → Option (Dv × Mem)
abbrev FT := En → Mem → Option (Bool × Mem)
abbrev FA := En → Mem → Option (List Dv × Mem)

section
variable (K : Frg) (ct : Ct)
/-- what must follow: the end (d, M') and all that may stand for it -/
def Aft (ρ : List Addr) (H : Hp) (M' : Mem) (Z : List Addr → Hp → Prop) : Prop := ∀ ρ' H', Ext K ρ H ρ' H' → Rl K ct ρ' M' H' → Z ρ' H'
def tE (f : FE) : TE := fun σ H Q => ∃ ρ M env, Rl K ct ρ M H ∧ EnOk K ρ H env σ ∧ ∃ d M', f env M = some (d, M') ∧ Aft K ct ρ H M' fun ρ' H' => ∀ v, DV K ρ' H' d v → Q v H'
def tT (f : FT) : TT := fun σ H Q => ∃ ρ M env, Rl K ct ρ M H ∧ EnOk K ρ H env σ ∧ ∃ b M', f env M = some (b, M') ∧ Aft K ct ρ H M' fun _ H' => Q b H'
def tA (f : FA) : TA := fun σ H Q => ∃ ρ M env, Rl K ct ρ M H ∧ EnOk K ρ H env σ ∧ ∃ ds M', f env M = some (ds, M') ∧ Aft K ct ρ H M' fun ρ' H' => ∀ vs, DVs K ρ' H' ds vs → Q vs H'
def tO (h : Dv → Dv → Mem → Option (Dv × Mem)) : R2 := fun x y H Q => ∃ ρ M d e, Rl K ct ρ M H ∧ DV K ρ H d x ∧ DV K ρ H e y ∧ ∃ z M', h d e M = some (z, M') ∧ Aft K ct ρ H M' fun ρ' H' => ∀ v, DV K ρ' H' z v → Q v H'
def tU (h : Dv → Mem → Option (Dv × Mem)) : V → Hp → VK → Prop := fun x H Q => ∃ ρ M d, Rl K ct ρ M H ∧ DV K ρ H d x ∧ ∃ z M', h d M = some (z, M') ∧ Aft K ct ρ H M' fun ρ' H' => ∀ v, DV K ρ' H' z v → Q v H'
def tC (h : List Dv → Mem → Option (Dv × Mem)) : List V → Hp → VK → Prop := fun xs H Q => ∃ ρ M ds, Rl K ct ρ M H ∧ DVs K ρ H ds xs ∧ ∃ z M', h ds M = some (z, M') ∧ Aft K ct ρ H M' fun ρ' H' => ∀ v, DV K ρ' H' z v → Q v H'
end
theorem Aft.later {K : Frg} {ct : Ct} {ρ ρ1 : List Addr} {H H1 : Hp} {M' : Mem} {Z : List Addr → Hp → Prop} (h : Aft K ct ρ H M' Z) (e : Ext K ρ H ρ1 H1) : Aft K ct ρ1 H1 M' Z := fun ρ' H' x r => h ρ' H' (e.trans x) r

abbrev SE (X : Cx) (ct : Ct) (e : Expr) (f : FE) : Prop := PE X e (tE X.K ct f)
abbrev ST (X : Cx) (ct : Ct) (e : Expr) (f : FT) : Prop := PT X e (tT X.K ct f)
abbrev SW (X : Cx) (ct : Ct) (e : Expr) (f : FT) : Prop := PW X e (tT X.K ct f)
abbrev SA (X : Cx) (ct : Ct) (es : List Expr) (f : FA) : Prop := PA X es (tA X.K ct f)
abbrev SO (X : Cx) (ct : Ct) (g : Value → Value → Sem Value) (h : Dv → Dv → Mem → Option (Dv × Mem)) : Prop := OpR X g (tO X.K ct h)
abbrev SU (X : Cx) (ct : Ct) (g : Value → Sem Value) (h : Dv → Mem → Option (Dv × Mem)) : Prop := UnR X g (tU X.K ct h)
abbrev SC (X : Cx) (ct : Ct) (g : Value) (h : List Dv → Mem → Option (Dv × Mem)) : Prop := CallR X g (tC X.K ct h)

section
variable {X : Cx} {ct : Ct} {e a b c : Expr} {pos : Pos}
theorem PE.imp {t t' : TE} (h : PE X e t) (k : ∀ σ H Q, t' σ H Q → t σ H Q) : PE X e t' := ⟨fun pins s σ H Q I w => h.run pins s σ H Q I (k σ H Q w)⟩
theorem PT.imp {t t' : TT} (h : PT X e t) (k : ∀ σ H Q, t' σ H Q → t σ H Q) : PT X e t' := ⟨fun pins s σ H Q I w => h.run pins s σ H Q I (k σ H Q w)⟩
theorem PW.imp {t t' : TT} (h : PW X e t) (k : ∀ σ H Q, t' σ H Q → t σ H Q) : PW X e t' := ⟨fun wh pins s σ H Q I w => h.run wh pins s σ H Q I (k σ H Q w)⟩
theorem PA.imp {es : List Expr} {t t' : TA} (h : PA X es t) (k : ∀ σ H Q, t' σ H Q → t σ H Q) : PA X es t' := ⟨fun pos pins s σ H Q I w => h.run pos pins s σ H Q I (k σ H Q w)⟩

/-! ### names and constants -/
def fV (i : Nat) : FE := fun env M => match env[i]? with
  | some (some d) => some (d, M)
  | _ => none
def fK (d : Dv) : FE := fun _ M => some (d, M)
theorem tE.const {d : Dv} {v : V} {σ : St} {H : Hp} {Q : VK} (hv : ∀ ρ H, DV X.K ρ H d v) (h : tE X.K ct (fK d) σ H Q) : Q v H := by
  obtain ⟨ρ, M, env, r, he, d', M', hf, hq⟩ := h
  cases hf
  exact hq ρ H .refl r v (hv ρ H)
theorem se_var {i : Nat} {x : Str} (hN : X.N[i]? = some x) (hv : Vis X.env.scope x) (hd : (x == ("__debug__" : Str)) = false := by decide) (hcd : (x == ("__classdict__" : Str)) = false := by decide) : SE X ct (.Name x pos) (fV i) :=
  PE.imp (pe_var hN hv hd hcd) fun σ H Q ⟨ρ, M, env, r, he, d, M', hf, hq⟩ => by
    unfold fV at hf
    split at hf
    · rename_i d' e'
      cases hf
      obtain ⟨v, h1, h2⟩ := he.2 i _ e'
      exact ⟨v, h1, hq ρ H .refl r v h2⟩
    · cases hf
theorem se_int {i j} : SE X ct (.Constant (.int i) j pos) (fK (.int i)) := PE.imp pe_int fun _ _ _ h => tE.const (fun _ _ => .int i) h
theorem se_bl {b j} : SE X ct (.Constant (.bool b) j pos) (fK (.bl b)) := PE.imp pe_bl fun _ _ _ h => tE.const (fun _ _ => .bl b) h
theorem se_non {j} : SE X ct (.Constant .none j pos) (fK .non) := PE.imp pe_non fun _ _ _ h => tE.const (fun _ _ => .non) h
theorem se_str {x j} : SE X ct (.Constant (.str x) j pos) (fK (.str x)) := PE.imp pe_str fun _ _ _ h => tE.const (fun _ _ => .str x) h
/-- a module's constant -/
theorem se_glob {x : Str} {d : Dv} {v : V} {u : Value} (hg : Gl X x) (hm : X.mg x = some u) (r : RelV v u) (hv : ∀ ρ H, DV X.K ρ H d v) (hd : (x == ("__debug__" : Str)) = false := by decide) : SE X ct (.Name x pos) (fK d) :=
  PE.imp (pe_glob hg hm r hd) fun _ _ _ h => tE.const hv h

/-! ### operators -/
def fO (h : Dv → Dv → Mem → Option (Dv × Mem)) (fa fb : FE) : FE := fun env M => bnd (fa env M) fun x M1 => bnd (fb env M1) fun y M2 => h x y M2
def fU (h : Dv → Mem → Option (Dv × Mem)) (fa : FE) : FE := fun env M => bnd (fa env M) h
variable {fa fb fc : FE} {h : Dv → Dv → Mem → Option (Dv × Mem)}
theorem op_imp {σ : St} {H : Hp} {Q : VK} (w : tE X.K ct (fO h fa fb) σ H Q) : tOp (tO X.K ct h) (tE X.K ct fa) (tE X.K ct fb) σ H Q := by
  obtain ⟨ρ, M, env, r, he, d, M', hf, hq⟩ := w
  obtain ⟨x, M1, h1, hf⟩ := bnd_some hf
  obtain ⟨y, M2, h2, h3⟩ := bnd_some hf
  exact ⟨ρ, M, env, r, he, x, M1, h1, fun ρ1 H1 e1 r1 v dv => ⟨ρ1, M1, env, r1, he.mono e1, y, M2, h2, fun ρ2 H2 e2 r2 w dw => ⟨ρ2, M2, x, y, r2, dv.mono e2, dw, d, M', h3, hq.later (e1.trans e2)⟩⟩⟩
theorem se_op {op : Operator} (ho : SO X ct (binaryOp op) h) (ha : SE X ct a fa) (hb : SE X ct b fb) : SE X ct (.BinOp a op b pos) (fO h fa fb) :=
  PE.imp (pe_op ho ha hb) fun _ _ _ w => op_imp w
theorem se_cmp {op : CmpOp} (ho : SO X ct (compareOp op) h) (ha : SE X ct a fa) (hb : SE X ct b fb) (hm : behindInMarks op b = false) : SE X ct (.Compare a [op] [b] pos) (fO h fa fb) :=
  PE.imp (pe_cmpR ho ha hb hm) fun _ _ _ w => op_imp w
theorem se_un {op : UnaryOp} {h : Dv → Mem → Option (Dv × Mem)} (ho : SU X ct (unaryOp op) h) (ha : SE X ct a fa) : SE X ct (.UnaryOp op a pos) (fU h fa) :=
  PE.imp (pe_un ho ha) fun σ H Q ⟨ρ, M, env, r, he, d, M', hf, hq⟩ => by
    obtain ⟨x, M1, h1, hf⟩ := bnd_some hf
    exact ⟨ρ, M, env, r, he, x, M1, h1, fun ρ1 H1 e1 r1 v dv => ⟨ρ1, M1, x, r1, dv, d, M', hf, hq.later e1⟩⟩
/-- a < b < c -/
def fChain (h h' : Dv → Dv → Mem → Option (Dv × Mem)) (fa fb fc : FE) : FE := fun env M => bnd (fa env M) fun x M1 => bnd (fb env M1) fun y M2 => bnd (h x y M2) fun z M3 =>
  match z with
  | .bl true => bnd (fc env M3) fun w M4 => h' y w M4
  | .bl false => some (.bl false, M3)
  | _ => none
theorem se_chain {op op' : CmpOp} {h' : Dv → Dv → Mem → Option (Dv × Mem)} (ho : SO X ct (compareOp op) h) (ho' : SO X ct (compareOp op') h') (ha : SE X ct a fa) (hb : SE X ct b fb) (hc : SE X ct c fc)
    (hm : lastMarks [op, op'] [b, c] = false := by with_unfolding_all rfl) : SE X ct (.Compare a [op, op'] [b, c] pos) (fChain h h' fa fb fc) :=
  PE.imp (pe_chain ho ho' ha hb hc hm) fun σ H Q ⟨ρ, M, env, r, he, d, M', hf, hq⟩ => by
    obtain ⟨x, M1, h1, hf⟩ := bnd_some hf
    obtain ⟨y, M2, h2, hf⟩ := bnd_some hf
    obtain ⟨z, M3, h3, hf⟩ := bnd_some hf
    refine ⟨ρ, M, env, r, he, x, M1, h1, fun ρ1 H1 e1 r1 v dv => ⟨ρ1, M1, env, r1, he.mono e1, y, M2, h2, fun ρ2 H2 e2 r2 w dw => ⟨ρ2, M2, x, y, r2, dv.mono e2, dw, z, M3, h3, fun ρ3 H3 e3 r3 u du => ?_⟩⟩⟩
    split at hf
    · cases du
      obtain ⟨t, M4, h4, hf⟩ := bnd_some hf
      refine ⟨true, rfl, ?_⟩
      rw [if_pos rfl]
      exact ⟨ρ3, M3, env, r3, ((he.mono e1).mono e2).mono e3, t, M4, h4, fun ρ4 H4 e4 r4 u4 du4 => ⟨ρ4, M4, y, t, r4, (dw.mono e3).mono e4, du4, d, M', hf, hq.later (((e1.trans e2).trans e3).trans e4)⟩⟩
    · cases du
      cases hf
      refine ⟨false, rfl, ?_⟩
      rw [if_neg (by decide)]
      exact hq ρ3 H3 ((e1.trans e2).trans e3) r3 _ (.bl false)
    · cases hf
end
end Zl

/-! text Z2 -/
namespace Zl
open PySem L2

section
variable {X : Cx} {ct : Ct} {e a b c : Expr} {pos : Pos} {fa fb fc : FE} {ft fu : FT} {rest : List Expr}
/-! ### tests -/
/-- a value that is a bool, as a test -/
def fB (f : FE) : FT := fun env M => bnd (f env M) fun d M1 => match d with
  | .bl b => some (b, M1)
  | _ => none
theorem b_imp {t : TE} {σ : St} {H : Hp} {Q : Bool → Hp → Prop} (w : tT X.K ct (fB fa) σ H Q) : tTest (tE X.K ct fa) σ H Q := by
  obtain ⟨ρ, M, env, r, he, d, M', hf, hq⟩ := w
  obtain ⟨x, M1, h1, hf⟩ := bnd_some hf
  split at hf
  · cases hf
    exact ⟨ρ, M, env, r, he, _, _, h1, fun ρ1 H1 e1 r1 v dv => by cases dv; exact ⟨_, rfl, hq ρ1 H1 e1 r1⟩⟩
  · cases hf
theorem st_val (h : SE X ct e fa) (he : ∀ whole, isTrue e X.env whole = (do let v ← whole; standAt e.pos; holding [v] (truthy v)) := by intro _; rfl) : ST X ct e (fB fa) :=
  PT.imp (pt_val h he) fun _ _ _ w => b_imp (t := tE X.K ct fa) w
theorem st_cmp {op : CmpOp} {h : Dv → Dv → Mem → Option (Dv × Mem)} (ho : SO X ct (compareOp op) h) (ha : SE X ct a fa) (hb : SE X ct b fb) (hm : behindInMarks op b = false) : ST X ct (.Compare a [op] [b] pos) (fB (fO h fa fb)) :=
  PT.imp (pt_cmpR ho ha hb hm) fun σ H Q w => by
    obtain ⟨ρ, M, env, r, he, d, M', hf, hq⟩ := w
    obtain ⟨x, M1, h1, hf⟩ := bnd_some hf
    split at hf
    · cases hf
      exact op_imp ⟨ρ, M, env, r, he, _, _, h1, fun ρ1 H1 e1 r1 v dv => by cases dv; exact ⟨_, rfl, hq ρ1 H1 e1 r1⟩⟩
    · cases hf
theorem st_chain {op op' : CmpOp} {h h' : Dv → Dv → Mem → Option (Dv × Mem)} (ho : SO X ct (compareOp op) h) (ho' : SO X ct (compareOp op') h') (ha : SE X ct a fa) (hb : SE X ct b fb) (hc : SE X ct c fc)
    (hm : lastMarks [op, op'] [b, c] = false := by with_unfolding_all rfl) : ST X ct (.Compare a [op, op'] [b, c] pos) (fB (fChain h h' fa fb fc)) := by
  refine PT.imp (pt_chain ho ho' ha hb hc hm) fun σ H Q w => ?_
  obtain ⟨ρ, M, env, r, he, d, M', hf, hq⟩ := w
  obtain ⟨x0, M0, h0, hf0⟩ := bnd_some hf
  have hz : ∃ k, x0 = Dv.bl k ∧ d = k ∧ M' = M0 := by
    split at hf0
    · cases hf0; exact ⟨_, rfl, rfl, rfl⟩
    · cases hf0
  obtain ⟨k, rfl, rfl, rfl⟩ := hz
  obtain ⟨x, M1, h1, h0⟩ := bnd_some h0
  obtain ⟨y, M2, h2, h0⟩ := bnd_some h0
  obtain ⟨z, M3, h3, h0⟩ := bnd_some h0
  refine ⟨ρ, M, env, r, he, x, M1, h1, fun ρ1 H1 e1 r1 v dv => ⟨ρ1, M1, env, r1, he.mono e1, y, M2, h2, fun ρ2 H2 e2 r2 w dw => ⟨ρ2, M2, x, y, r2, dv.mono e2, dw, z, M3, h3, fun ρ3 H3 e3 r3 u du => ?_⟩⟩⟩
  split at h0
  · cases du
    obtain ⟨t, M4, h4, h0⟩ := bnd_some h0
    refine ⟨true, rfl, ?_⟩
    rw [if_pos rfl]
    exact ⟨ρ3, M3, env, r3, ((he.mono e1).mono e2).mono e3, t, M4, h4, fun ρ4 H4 e4 r4 u4 du4 => ⟨ρ4, M4, y, t, r4, (dw.mono e3).mono e4, du4, _, _, h0, fun ρ5 H5 e5 r5 u5 du5 => by
      cases du5
      exact ⟨_, rfl, hq ρ5 H5 ((((e1.trans e2).trans e3).trans e4).trans e5) r5⟩⟩⟩
  · cases du
    cases h0
    refine ⟨false, rfl, ?_⟩
    rw [if_neg (by decide)]
    exact ⟨_, rfl, hq ρ3 H3 ((e1.trans e2).trans e3) r3⟩
  · cases h0
/-- a value's truth -/
def fTr (f : FE) : FT := fun env M => bnd (f env M) fun d M1 => match d with
  | .non => some (false, M1)
  | .bl b => some (b, M1)
  | .int i => some (i != 0, M1)
  | .str x => if x.length ≤ sizeLine then some ((x.length : Int) != 0, M1) else none
  | .tup xs => some (!xs.isEmpty, M1)
  | .rol xs => some (!xs.isEmpty, M1)
  | .loc n => match M1[n]? with
    | some (.lst xs) => some (!xs.isEmpty, M1)
    | _ => none
  | _ => none
theorem isEmpty_dvs {K : Frg} {ρ : List Addr} {H : Hp} {ds : List Dv} {vs : List V} (h : DVs K ρ H ds vs) : vs.isEmpty = ds.isEmpty := by cases h <;> rfl
theorem st_truth (h : SE X ct e fa) (he : ∀ whole, isTrue e X.env whole = (do let v ← whole; standAt e.pos; holding [v] (truthy v)) := by intro _; rfl) : ST X ct e (fTr fa) :=
  PT.imp (pt_truth h he) fun σ H Q ⟨ρ, M, env, r, hen, d, M', hf, hq⟩ => by
    obtain ⟨x, M1, h1, hf⟩ := bnd_some hf
    refine ⟨ρ, M, env, r, hen, x, M1, h1, fun ρ1 H1 e1 r1 v dv => ?_⟩
    cases x with
    | non => cases hf; cases dv; exact ⟨_, rfl, hq ρ1 H1 e1 r1⟩
    | bl b => cases hf; cases dv; exact ⟨_, rfl, hq ρ1 H1 e1 r1⟩
    | int i => cases hf; cases dv; exact ⟨_, rfl, hq ρ1 H1 e1 r1⟩
    | str x =>
      dsimp only at hf
      split at hf
      · rename_i hl
        cases hf; cases dv; exact ⟨_, ⟨hl, rfl⟩, hq ρ1 H1 e1 r1⟩
      · cases hf
    | tup xs =>
      cases hf
      cases dv with
      | tup hs hd => exact ⟨_, .inr (.inl ⟨_, hs.sq, by rw [isEmpty_dvs hd]⟩), hq ρ1 H1 e1 r1⟩
    | rol xs =>
      cases hf
      cases dv with
      | rol hs hd => exact ⟨_, .inl ⟨_, hs.sq, by rw [isEmpty_dvs hd]⟩, hq ρ1 H1 e1 r1⟩
    | loc n =>
      dsimp only at hf
      split at hf
      · rename_i xs hm
        cases hf
        obtain ⟨a, vs, rfl, h2, h3, h4⟩ := r1.lst hm dv
        exact ⟨_, .inl ⟨vs, SqL.of h3, by rw [isEmpty_dvs h4]⟩, hq ρ1 H1 e1 r1⟩
      · cases hf
    | ty n => cases hf
    | pr xs => cases hf
/-- not -/
def fNotT (f : FT) : FT := fun env M => bnd (f env M) fun b M1 => some (!b, M1)
theorem st_not (h : ST X ct a ft) : ST X ct (.UnaryOp .Not a pos) (fNotT ft) :=
  PT.imp (pt_not h) fun σ H Q ⟨ρ, M, env, r, he, d, M', hf, hq⟩ => by
    obtain ⟨x, M1, h1, hf⟩ := bnd_some hf
    cases hf
    exact ⟨ρ, M, env, r, he, x, _, h1, fun ρ1 H1 e1 r1 => hq ρ1 H1 e1 r1⟩
def fAndT (f g : FT) : FT := fun env M => bnd (f env M) fun b M1 => if b then g env M1 else some (false, M1)
def fOrT (f g : FT) : FT := fun env M => bnd (f env M) fun b M1 => if b then some (true, M1) else g env M1
theorem sw_and1 (h : ST X ct a ft) : SW X ct (.BoolOp .And [a] pos) ft := pw_and1 h
theorem sw_or1 (h : ST X ct a ft) : SW X ct (.BoolOp .Or [a] pos) ft := pw_or1 h
theorem sw_and (h : ST X ct a ft) (k : SW X ct (.BoolOp .And (b :: rest) pos) fu) : SW X ct (.BoolOp .And (a :: b :: rest) pos) (fAndT ft fu) :=
  PW.imp (pw_and h k) fun σ H Q ⟨ρ, M, env, r, he, d, M', hf, hq⟩ => by
    obtain ⟨x, M1, h1, hf⟩ := bnd_some hf
    refine ⟨ρ, M, env, r, he, x, M1, h1, fun ρ1 H1 e1 r1 => ?_⟩
    cases x with
    | true =>
      rw [if_pos rfl]
      exact ⟨ρ1, M1, env, r1, he.mono e1, d, M', hf, hq.later e1⟩
    | false =>
      cases hf
      rw [if_neg (by decide)]
      exact hq ρ1 H1 e1 r1
theorem sw_or (h : ST X ct a ft) (k : SW X ct (.BoolOp .Or (b :: rest) pos) fu) : SW X ct (.BoolOp .Or (a :: b :: rest) pos) (fOrT ft fu) :=
  PW.imp (pw_or h k) fun σ H Q ⟨ρ, M, env, r, he, d, M', hf, hq⟩ => by
    obtain ⟨x, M1, h1, hf⟩ := bnd_some hf
    refine ⟨ρ, M, env, r, he, x, M1, h1, fun ρ1 H1 e1 r1 => ?_⟩
    cases x with
    | false =>
      rw [if_neg (by decide)]
      exact ⟨ρ1, M1, env, r1, he.mono e1, d, M', hf, hq.later e1⟩
    | true =>
      cases hf
      rw [if_pos rfl]
      exact hq ρ1 H1 e1 r1
theorem SW.st (h : SW X ct e ft) : ST X ct e ft := PW.pt h
/-! ### as values: all but the last one bools -/
def fAndV (f g : FE) : FE := fun env M => bnd (f env M) fun d M1 => match d with
  | .bl true => g env M1
  | .bl false => some (.bl false, M1)
  | _ => none
def fOrV (f g : FE) : FE := fun env M => bnd (f env M) fun d M1 => match d with
  | .bl true => some (.bl true, M1)
  | .bl false => g env M1
  | _ => none
theorem se_one {op} (h : SE X ct a fa) : SE X ct (.BoolOp op [a] pos) fa := pe_one h
theorem se_and (h : SE X ct a fa) (k : SE X ct (.BoolOp .And (b :: rest) pos) fb) : SE X ct (.BoolOp .And (a :: b :: rest) pos) (fAndV fa fb) :=
  PE.imp (pe_and h k) fun σ H Q ⟨ρ, M, env, r, he, d, M', hf, hq⟩ => by
    obtain ⟨x, M1, h1, hf⟩ := bnd_some hf
    refine ⟨ρ, M, env, r, he, x, M1, h1, fun ρ1 H1 e1 r1 v dv => ?_⟩
    split at hf
    · cases dv
      refine ⟨true, rfl, ?_⟩
      rw [if_pos rfl]
      exact ⟨ρ1, M1, env, r1, he.mono e1, d, M', hf, hq.later e1⟩
    · cases dv; cases hf
      refine ⟨false, rfl, ?_⟩
      rw [if_neg (by decide)]
      exact hq ρ1 H1 e1 r1 _ (.bl false)
    · cases hf
theorem se_or (h : SE X ct a fa) (k : SE X ct (.BoolOp .Or (b :: rest) pos) fb) : SE X ct (.BoolOp .Or (a :: b :: rest) pos) (fOrV fa fb) :=
  PE.imp (pe_or h k) fun σ H Q ⟨ρ, M, env, r, he, d, M', hf, hq⟩ => by
    obtain ⟨x, M1, h1, hf⟩ := bnd_some hf
    refine ⟨ρ, M, env, r, he, x, M1, h1, fun ρ1 H1 e1 r1 v dv => ?_⟩
    split at hf
    · cases dv; cases hf
      refine ⟨true, rfl, ?_⟩
      rw [if_pos rfl]
      exact hq ρ1 H1 e1 r1 _ (.bl true)
    · cases dv
      refine ⟨false, rfl, ?_⟩
      rw [if_neg (by decide)]
      exact ⟨ρ1, M1, env, r1, he.mono e1, d, M', hf, hq.later e1⟩
    · cases hf
def fNotV (f : FE) : FE := fun env M => bnd (f env M) fun d M1 => match d with
  | .bl b => some (.bl (!b), M1)
  | _ => none
theorem se_not (h : SE X ct a fa) : SE X ct (.UnaryOp .Not a pos) (fNotV fa) :=
  PE.imp (pe_not h) fun σ H Q ⟨ρ, M, env, r, he, d, M', hf, hq⟩ => by
    obtain ⟨x, M1, h1, hf⟩ := bnd_some hf
    refine ⟨ρ, M, env, r, he, x, M1, h1, fun ρ1 H1 e1 r1 v dv => ?_⟩
    split at hf
    · cases dv; cases hf
      exact ⟨_, rfl, hq ρ1 H1 e1 r1 _ (.bl _)⟩
    · cases hf
def fIf (f : FT) (g h : FE) : FE := fun env M => bnd (f env M) fun b M1 => if b then g env M1 else h env M1
theorem se_if (hc : ST X ct c ft) (ha : SE X ct a fa) (hb : SE X ct b fb) : SE X ct (.IfExp c a b pos) (fIf ft fa fb) :=
  PE.imp (pe_ifExp hc ha hb) fun σ H Q ⟨ρ, M, env, r, he, d, M', hf, hq⟩ => by
    obtain ⟨x, M1, h1, hf⟩ := bnd_some hf
    refine ⟨ρ, M, env, r, he, x, M1, h1, fun ρ1 H1 e1 r1 => ?_⟩
    cases x with
    | true =>
      rw [if_pos rfl]
      exact ⟨ρ1, M1, env, r1, he.mono e1, d, M', hf, hq.later e1⟩
    | false =>
      rw [if_neg (by decide)]
      exact ⟨ρ1, M1, env, r1, he.mono e1, d, M', hf, hq.later e1⟩

/-! ### argument lists, displays -/
variable {es : List Expr} {fr : FA}
def fNil : FA := fun _ M => some ([], M)
def fCons (f : FE) (g : FA) : FA := fun env M => bnd (f env M) fun d M1 => bnd (g env M1) fun ds M2 => some (d :: ds, M2)
theorem sa_nil : SA X ct [] fNil := PA.imp pa_nil fun σ H Q ⟨ρ, M, env, r, he, d, M', hf, hq⟩ => by
  cases hf
  exact hq ρ H .refl r _ .nil
theorem sa_cons (h : SE X ct e fa) (k : SA X ct es fr) (hs : starEach (e :: es) X.env = (false, eval e X.env) :: starEach es X.env := by rfl) : SA X ct (e :: es) (fCons fa fr) :=
  PA.imp (pa_cons h k hs) fun σ H Q ⟨ρ, M, env, r, he, d, M', hf, hq⟩ => by
    obtain ⟨x, M1, h1, hf⟩ := bnd_some hf
    obtain ⟨ys, M2, h2, hf⟩ := bnd_some hf
    cases hf
    exact ⟨ρ, M, env, r, he, x, M1, h1, fun ρ1 H1 e1 r1 v dv => ⟨ρ1, M1, env, r1, he.mono e1, ys, _, h2, fun ρ2 H2 e2 r2 vs dvs => hq ρ2 H2 (e1.trans e2) r2 _ (.cons (dv.mono e2) dvs)⟩⟩
/-- *e ahead of the rest -/
def fStar (f : FE) (g : FA) : FA := fun env M => bnd (f env M) fun d M1 => match d with
  | .tup xs => bnd (g env M1) fun ds M2 => some (xs ++ ds, M2)
  | _ => none
def fTup (f : FA) : FE := fun env M => bnd (f env M) fun ds M1 => if ds.length ≤ sizeLine then some (.tup ds, M1) else none
def fLst (f : FA) : FE := fun env M => bnd (f env M) fun ds M1 => if ds.length ≤ sizeLine then some (.loc M1.length, M1 ++ [.lst ds]) else none
/-- a new tuple, locked -/
theorem layT {pins : List (Addr × Obj)} {σ : St} {H : Hp} {s : Shared} {xs : List V} {us : List Value} {tk : Nat} (I : Inv X pins σ H s) (r : Vals xs us) (hz : xs.length ≤ sizeLine) :
    Inv X pins σ (upd H s.heap.objs.size (.frz { cls := .type "tuple", data := .seq us.toArray } (.tup xs))) { s with heap := s.heap.push { cls := .type "tuple", data := .seq us.toArray }, toks := tk } :=
  I.laid (fun _ _ q => Heap.get?_push_of_some _ q) (Nat.le_refl _) ⟨Heap.get?_push_size _ rfl, hz, us, r, PyProof.Rows.IsTup.new _ _⟩
theorem pe_tupF {x1} {t : TA} (h : PA X es t) : PE X (.Tuple es x1 pos) (fun σ H Q => t σ H fun xs H1 => xs.length ≤ sizeLine ∧ ∀ p o, H1 p = none → o.dict = none → Q (.ref p) (upd H1 p (.frz o (.tup xs)))) :=
  ⟨fun pins s σ H Q I hq => wpAny_Tuple_spliced (thn (h.run pos pins s σ H _ I hq) fun us s1 ⟨xs, H1, I1, r, z, q⟩ => ⟨r.length ▸ z,
    ⟨V.ref s1.heap.objs.size, _, layT (tk := s1.toks) I1 r z, rfl, q _ _ (I1.hok.fresh (Nat.le_refl _)) rfl⟩⟩)⟩
theorem se_tup {x1} (h : SA X ct es fr) : SE X ct (.Tuple es x1 pos) (fTup fr) :=
  PE.imp (pe_tupF h) fun σ H Q ⟨ρ, M, env, r, he, d, M', hf, hq⟩ => by
    obtain ⟨ys, M1, h1, hf⟩ := bnd_some hf
    split at hf
    · rename_i hl
      cases hf
      refine ⟨ρ, M, env, r, he, ys, _, h1, fun ρ1 H1 e1 r1 vs dvs => ⟨by rw [← dvs.length]; exact hl, fun p o hp ho => ?_⟩⟩
      exact hq ρ1 _ (e1.trans (Ext.fresh hp)) (r1.tup hp _) _ (.tup (TupD.new ho) (dvs.mono (Ext.fresh hp)))
    · cases hf
theorem se_lst (h : SA X ct es fr) : SE X ct (.List es pos) (fLst fr) :=
  PE.imp (pe_lst h) fun σ H Q ⟨ρ, M, env, r, he, d, M', hf, hq⟩ => by
    obtain ⟨ys, M1, h1, hf⟩ := bnd_some hf
    split at hf
    · rename_i hl
      cases hf
      refine ⟨ρ, M, env, r, he, ys, _, h1, fun ρ1 H1 e1 r1 vs dvs => ⟨by rw [← dvs.length]; exact hl, fun p hp => ?_⟩⟩
      obtain ⟨r2, e2, h2⟩ := r1.newL hp dvs
      exact hq _ _ (e1.trans e2) r2 _ (.loc h2)
    · cases hf
/-! ### a call of a built-in -/
def fC (h : List Dv → Mem → Option (Dv × Mem)) (f : FA) : FE := fun env M => bnd (f env M) h
variable {hc : List Dv → Mem → Option (Dv × Mem)} {id T : String} {x : Str} {p : Pos}
theorem c_imp {σ : St} {H : Hp} {Q : VK} (w : tE X.K ct (fC hc fr) σ H Q) : tCB (tC X.K ct hc) (tA X.K ct fr) σ H Q := by
  obtain ⟨ρ, M, env, r, he, d, M', hf, hq⟩ := w
  obtain ⟨ys, M1, h1, hf⟩ := bnd_some hf
  exact ⟨ρ, M, env, r, he, ys, M1, h1, fun ρ1 H1 e1 r1 vs dvs => ⟨ρ1, M1, ys, r1, dvs, d, M', hf, hq.later e1⟩⟩
theorem se_callB (h : SC X ct (.builtin id) hc) (hg : Gl X x) (hm : X.mg x = none) (hv : bootBuiltins x = some (.builtin id)) (ha : SA X ct (e :: es) fr) (hn : x ≠ "__name__" := by decide) (hdb : (x == ("__debug__" : Str)) = false := by decide)
    (he : starEach (e :: es) X.env = (false, eval e X.env) :: starEach es X.env := by rfl) (hpl : (backTo pos (starEach es X.env)).any (·.1) = false := by rfl) : SE X ct (.Call (.Name x p) (e :: es) [] pos) (fC hc fr) :=
  PE.imp (pe_callB h hg hm hv ha hn hdb he hpl) fun _ _ _ w => c_imp w
theorem se_callTy (h : SC X ct (.type T) hc) (hg : Gl X x) (hm : X.mg x = none) (hv : bootBuiltins x = some (.type T)) (ha : SA X ct (e :: es) fr) (hn : x ≠ "__name__" := by decide) (hdb : (x == ("__debug__" : Str)) = false := by decide)
    (he : starEach (e :: es) X.env = (false, eval e X.env) :: starEach es X.env := by rfl) (hpl : (backTo pos (starEach es X.env)).any (·.1) = false := by rfl) : SE X ct (.Call (.Name x p) (e :: es) [] pos) (fC hc fr) :=
  PE.imp (pe_callTy h hg hm hv ha hn hdb he hpl) fun _ _ _ w => c_imp w
end
end Zl

/-! text Z3 -/
namespace Zl
open PySem L2 PySem.Spec PyProof.Rows

abbrev Rz := Option (Dv × Mem)
section
variable {X : Cx}
/-- t + u, the sum locked -/
theorem op_catF : OpR X (binaryOp .Add) (fun x y H Q => ∃ a b xs ys, x = .ref a ∧ y = .ref b ∧ SqT X.K H a xs ∧ SqT X.K H b ys ∧ xs.length + ys.length ≤ sizeLine ∧
    (xs = [] → Q (.ref b) H) ∧ (xs ≠ [] → ys = [] → Q (.ref a) H) ∧ (xs ≠ [] → ys ≠ [] → ∀ p o, H p = none → o.dict = none → Q (.ref p) (upd H p (.frz o (.tup (xs ++ ys)))))) := by
  intro pins s σ H x y v u Q I rx ry h
  obtain ⟨a, b, xs, ys, rfl, rfl, ha, hb, hz, q0, q1, q2⟩ := h
  cases rx; cases ry
  obtain ⟨us, r1, p1, _⟩ := I.tuple ha
  obtain ⟨ws, r2, p2, _⟩ := I.tuple hb
  by_cases hx : xs = []
  · subst hx
    cases r1
    exact cat_tup0 p1 p2 ⟨V.ref b, H, I, rfl, q0 rfl⟩
  · have hu : us ≠ [] := fun e => hx (by subst e; cases r1; rfl)
    refine HT.cat_tup p1 p2 hu (fun e => ?_) (fun e => ?_) ?_
    · subst e; cases r2
      exact ⟨V.ref a, H, I, rfl, q1 hx rfl⟩
    · have hy : ys ≠ [] := fun e' => e (by subst e'; cases r2; rfl)
      exact ⟨V.ref s.heap.objs.size, _, layT (tk := s.toks) I (r1.append r2) (by rw [List.length_append]; exact hz), rfl, q2 hx hy _ _ (I.hok.fresh (Nat.le_refl _)) rfl⟩
    · have e1 := r1.length
      have e2 := r2.length
      omega
/-- t * k where nothing new is made: the tuple is empty, or k is 1 -/
theorem tmul_same (l : Addr) (items : Array Value) (n : Nat) (dd : Option Addr) (sl : Array (Option Value)) (x : Int) (u : Tok) (c0 : (decide (x < -(2 ^ 63)) || decide (x ≥ 2 ^ 63)) = false) (c1 : (items.isEmpty || x == 1) = true) :
    Meets (Builtin.«tuple.__mul__» ⟨[.ref l, .int x u], []⟩) (fun _ R s => s.heap.get? l = some { cls := .type "tuple", dict := dd, data := .seq items n, slots := sl } ∧ R (.ok (.ret (Value.ref l))) s) :=
  .of_wp fun prog w A R s h => by
    obtain ⟨hp, g, d, tk, os⟩ := s
    obtain ⟨hl, h⟩ := h
    have f1 := AutoSeq1.idx_int
    wp_walk using wpAny_loadPart' hl
    refine wpAny_ite_false (decide_eq_false (by rw [c0]; exact Bool.false_ne_true)) ?_
    wp_walk using wpAny_loadPart' hl
    exact ⟨_, rfl, h⟩
/-- t * k, k not above 0: a new empty tuple -/
theorem tmul_none (l : Addr) (items : Array Value) (n : Nat) (dd : Option Addr) (sl : Array (Option Value)) (x : Int) (u : Tok) (c0 : (decide (x < -(2 ^ 63)) || decide (x ≥ 2 ^ 63)) = false) (c1 : (items.isEmpty || x == 1) = false) (c2 : (decide (x ≤ 0) || items.isEmpty) = true) :
    Meets (Builtin.«tuple.__mul__» ⟨[.ref l, .int x u], []⟩) (fun _ R s => s.heap.get? l = some { cls := .type "tuple", dict := dd, data := .seq items n, slots := sl } ∧
      R (.ok (.ret (Value.ref s.heap.objs.size))) { s with heap := s.heap.push { cls := .type "tuple", data := .seq #[] } }) :=
  .of_wp fun prog w A R s h => by
    obtain ⟨hp, g, d, tk, os⟩ := s
    obtain ⟨hl, h⟩ := h
    have f1 := AutoSeq1.idx_int
    wp_walk using wpAny_loadPart' hl
    refine wpAny_ite_false (decide_eq_false (by rw [c0]; exact Bool.false_ne_true)) ?_
    wp_walk using wpAny_loadPart' hl
    exact ⟨_, rfl, h⟩
/-- t * k, whatever k: locked where it is new -/
theorem op_repF : OpR X (binaryOp .Mult) (fun x y H Q => ∃ l k xs, x = .ref l ∧ y = .int k ∧ SqT X.K H l xs ∧ -(2 ^ 63) ≤ k ∧ k < 2 ^ 63 ∧ xs.length * k.toNat ≤ sizeLine ∧
    (xs = [] ∨ k = 1 → Q (.ref l) H) ∧ (xs ≠ [] → k ≠ 1 → ∀ p o, H p = none → o.dict = none → Q (.ref p) (upd H p (.frz o (.tup (List.replicate k.toNat xs).flatten))))) := by
  intro pins s σ H x y v u Q I rx ry h
  obtain ⟨l, k, xs, rfl, rfl, hT, h1, h2, hz, q1, q2⟩ := h
  cases rx
  obtain ⟨t, rfl⟩ := ry
  obtain ⟨its, r, ⟨⟨cls, dd, data, sl⟩, ho, hc, n, hd⟩, hs⟩ := I.tuple hT
  simp only at hc hd
  subst hc hd
  have hle : its.length = xs.length := r.length.symm
  have c0 : (decide (k < -(2 ^ 63)) || decide (k ≥ 2 ^ 63)) = false := by
    rw [decide_eq_false (by omega), decide_eq_false (by omega)]; rfl
  have road : ∀ {S : PySem.Spec}, Meets (Builtin.«tuple.__mul__» ⟨[.ref l, .int k t], []⟩) S → S X.A (wants (EP X pins σ Q) X.xe) s → wpAny (model X.prog X.w) X.A (binaryOp .Mult (.ref l) (.int k t)) (EP X pins σ Q) X.xe s := fun {S} g hS =>
    wpAny_binaryOp_repeat_ref (T := "tuple") (U := "int") (by decide) ⟨_, ho, rfl⟩ (fun s' => typeIs_int s' k t) noFill_tuple_mul F.fills_int_mul F.slot_int_rmul repeat_tuple F.slot_int_index.lookup
      (call_meets F.slot_int_rmul (typeIs_int s k t) F.entry_int_rmul (F.args_int_rmul_2 _ _) (int_rmul_tuple k t l its.toArray n dd sl)
        ⟨ho, rfl, ⟨_, ho, rfl⟩, call_meets F.slot_tuple_mul ⟨_, ho, rfl⟩ F.entry_tuple_mul (F.args_tuple_mul_2 _ _) g hS⟩)
  by_cases hx : xs = []
  · subst hx
    cases r
    exact road (tmul_same l [].toArray n dd sl k t c0 rfl) ⟨ho, V.ref l, H, I, rfl, q1 (.inl rfl)⟩
  · have hn : its.toArray.isEmpty = false := by
      cases r with
      | nil => exact absurd rfl hx
      | cons _ _ => rfl
    by_cases hk : k = 1
    · subst hk
      exact road (tmul_same l _ n dd sl 1 t c0 (by rw [hn]; rfl)) ⟨ho, V.ref l, H, I, rfl, q1 (.inr rfl)⟩
    · have c1 : (its.toArray.isEmpty || k == 1) = false := by
        rw [hn, Bool.false_or]
        exact beq_eq_false_iff_ne.mpr hk
      by_cases h0 : k ≤ 0
      · refine road (tmul_none l _ n dd sl k t c0 c1 (by rw [decide_eq_true h0]; rfl)) ⟨ho, V.ref s.heap.objs.size, _, layT (us := []) (xs := []) (tk := s.toks) I .nil (Nat.zero_le _), rfl, ?_⟩
        have e := q2 hx hk s.heap.objs.size { cls := .type "tuple", data := .seq #[] } (I.hok.fresh (Nat.le_refl _)) rfl
        rw [show k.toNat = 0 by omega] at e
        exact e
      · have hm : ((its.toArray.size : Nat) : Int) * k ≤ 16777216 := by
          have e1 : ((its.toArray.size : Nat) : Int) * k = ((xs.length * k.toNat : Nat) : Int) := by
            rw [List.size_toArray, hle, Int.natCast_mul, Int.toNat_of_nonneg (by omega)]
          rw [e1]
          have : xs.length * k.toNat ≤ 16777216 := hz
          omega
        have flen : (List.replicate k.toNat its).flatten.length ≤ sizeLine := by
          rw [lm_len_rep_flat, hle, Nat.mul_comm]; exact hz
        have c4 : Builtin.Tuple.tupleTooMany (((its.toArray.size : Nat) : Int) * k) = false := by
          unfold Builtin.Tuple.tupleTooMany
          exact decide_eq_false (by rw [sizeLine_eq]; omega)
        refine road (tuple_mulW l its.toArray n dd sl k t c0 c1 (by rw [hn, Bool.or_false]; exact decide_eq_false h0) (by omega) c4 (by rw [size_rep, List.size_toArray]; exact flen)) ⟨ho, ?_⟩
        rw [size_rep]
        refine ⟨V.ref s.heap.objs.size, _, layT (tk := s.toks) I (r.rep k.toNat) ?_, rfl, q2 hx hk _ _ (I.hok.fresh (Nat.le_refl _)) rfl⟩
        rw [lm_len_rep_flat, Nat.mul_comm]; exact hz
end
section
variable {X : Cx} {ct : Ct}
/-! ### arithmetic -/
def addD : Dv → Dv → Mem → Rz
  | .int i, .int j, M => some (.int (i + j), M)
  | .str x, .str y, M => if x.length + y.length ≤ sizeLine then some (.str (x ++ y), M) else none
  | .tup xs, .tup ys, M => if xs.length + ys.length ≤ sizeLine then some (.tup (xs ++ ys), M) else none
  | .loc m, .loc n, M => match M[m]?, M[n]? with
    | some (.lst xs), some (.lst ys) => if xs.length + ys.length ≤ sizeLine then some (.loc M.length, M ++ [.lst (xs ++ ys)]) else none
    | _, _ => none
  | _, _, _ => none
theorem so_add : SO X ct (binaryOp .Add) addD := by
  intro pins s σ H x y v u Q I rx ry h
  obtain ⟨ρ, M, d, e, r, dx, dy, z, M', hf, hq⟩ := h
  unfold addD at hf
  split at hf
  · cases hf; cases dx; cases dy
    exact op_add pins s σ H _ _ v u Q I rx ry ⟨_, _, rfl, rfl, hq ρ H .refl r _ (.int _)⟩
  · split at hf
    · rename_i hl
      cases hf; cases dx; cases dy
      exact op_add_str pins s σ H _ _ v u Q I rx ry ⟨_, _, rfl, rfl, hl, hq ρ H .refl r _ (.str _)⟩
    · cases hf
  · split at hf
    · rename_i hl
      cases hf
      cases dx with
      | tup h1 d1 =>
        cases dy with
        | tup h2 d2 =>
          refine op_catF pins s σ H _ _ v u Q I rx ry ⟨_, _, _, _, rfl, rfl, h1.sq, h2.sq, by rw [← d1.length, ← d2.length]; exact hl, fun e1 => ?_, fun n1 e2 => ?_, fun n1 n2 p o hp ho => ?_⟩
          · subst e1
            cases d1
            exact hq ρ H .refl r _ (.tup h2 d2)
          · subst e2
            cases d2
            exact hq ρ H .refl r _ (.tup h1 (by rw [List.append_nil]; exact d1))
          · exact hq ρ _ (Ext.fresh hp) (r.tup hp _) _ (.tup (TupD.new ho) ((d1.append d2).mono (Ext.fresh hp)))
    · cases hf
  · split at hf
    · rename_i m n _ _ hm hn
      split at hf
      · rename_i hl
        cases hf
        obtain ⟨a, vs, rfl, a1, a2, a3⟩ := r.lst hm dx
        obtain ⟨b, ws, rfl, b1, b2, b3⟩ := r.lst hn dy
        refine op_cat pins s σ H _ _ v u Q I rx ry ⟨_, _, _, _, rfl, rfl, a2, b2, by rw [← a3.length, ← b3.length]; exact hl, fun p hp => ?_⟩
        obtain ⟨r2, e2, h2⟩ := r.newL hp (a3.append b3)
        exact hq _ _ e2 r2 _ (.loc h2)
      · cases hf
    · cases hf
  · cases hf
def subD : Dv → Dv → Mem → Rz
  | .int i, .int j, M => some (.int (i - j), M)
  | _, _, _ => none
theorem so_sub : SO X ct (binaryOp .Sub) subD := by
  intro pins s σ H x y v u Q I rx ry h
  obtain ⟨ρ, M, d, e, r, dx, dy, z, M', hf, hq⟩ := h
  unfold subD at hf
  split at hf
  · cases hf; cases dx; cases dy
    exact op_sub pins s σ H _ _ v u Q I rx ry ⟨_, _, rfl, rfl, hq ρ H .refl r _ (.int _)⟩
  · cases hf
theorem rep_nil : ∀ n : Nat, (List.replicate n ([] : List Dv)).flatten = []
  | 0 => rfl
  | n + 1 => by rw [List.replicate_succ, List.flatten_cons, rep_nil n]; rfl
theorem rep_one (xs : List Dv) : (List.replicate (1 : Int).toNat xs).flatten = xs := by simp
def mulD : Dv → Dv → Mem → Rz
  | .int i, .int j, M => if (-(2 ^ 64) < i ∧ i < 2 ^ 64) ∨ (-(2 ^ 64) < j ∧ j < 2 ^ 64) then some (.int (i * j), M) else none
  | .loc n, .int k, M => match M[n]? with
    | some (.lst xs) => if -(2 ^ 63) ≤ k ∧ k < 2 ^ 63 ∧ xs.length * k.toNat ≤ sizeLine then some (.loc M.length, M ++ [.lst (List.replicate k.toNat xs).flatten]) else none
    | _ => none
  | .tup xs, .int k, M => if -(2 ^ 63) ≤ k ∧ k < 2 ^ 63 ∧ xs.length * k.toNat ≤ sizeLine then some (.tup (List.replicate k.toNat xs).flatten, M) else none
  | _, _, _ => none
theorem so_mul : SO X ct (binaryOp .Mult) mulD := by
  intro pins s σ H x y v u Q I rx ry h
  obtain ⟨ρ, M, d, e, r, dx, dy, z, M', hf, hq⟩ := h
  unfold mulD at hf
  split at hf
  · split at hf
    · rename_i hl
      cases hf; cases dx; cases dy
      exact op_mul pins s σ H _ _ v u Q I rx ry ⟨_, _, rfl, rfl, hl, hq ρ H .refl r _ (.int _)⟩
    · cases hf
  · split at hf
    · rename_i n k _ _ hm
      split at hf
      · rename_i hl
        cases hf
        obtain ⟨a, vs, rfl, a1, a2, a3⟩ := r.lst hm dx
        cases dy
        refine op_rep pins s σ H _ _ v u Q I rx ry ⟨_, _, _, rfl, rfl, a2, hl.1, hl.2.1, by rw [← a3.length]; exact hl.2.2, fun p hp => ?_⟩
        obtain ⟨r2, e2, h2⟩ := r.newL hp (a3.rep _)
        exact hq _ _ e2 r2 _ (.loc h2)
      · cases hf
    · cases hf
  · split at hf
    · rename_i xs k _ hl
      cases hf
      cases dy
      cases dx with
      | tup h1 d1 =>
        refine op_repF pins s σ H _ _ v u Q I rx ry ⟨_, _, _, rfl, rfl, h1.sq, hl.1, hl.2.1, by rw [← d1.length]; exact hl.2.2, fun hs => ?_, fun _ _ p o hp ho => ?_⟩
        · refine hq ρ H .refl r _ (.tup h1 ?_)
          rcases hs with e | e
          · subst e; cases d1
            rw [rep_nil]; exact .nil
          · subst e
            rw [rep_one]; exact d1
        · exact hq ρ _ (Ext.fresh hp) (r.tup hp _) _ (.tup (TupD.new ho) ((d1.rep _).mono (Ext.fresh hp)))
    · cases hf
  · cases hf
def fdivD : Dv → Dv → Mem → Rz
  | .int i, .int j, M => if 0 < j ∧ j < 1073741824 then some (.int (i / j), M) else none
  | _, _, _ => none
theorem so_fdiv : SO X ct (binaryOp .FloorDiv) fdivD := by
  intro pins s σ H x y v u Q I rx ry h
  obtain ⟨ρ, M, d, e, r, dx, dy, z, M', hf, hq⟩ := h
  unfold fdivD at hf
  split at hf
  · split at hf
    · rename_i hl
      cases hf; cases dx; cases dy
      exact op_fdiv pins s σ H _ _ v u Q I rx ry ⟨_, _, rfl, rfl, hl, hq ρ H .refl r _ (.int _)⟩
    · cases hf
  · cases hf
def modD : Dv → Dv → Mem → Rz
  | .int i, .int j, M => if 0 < j then some (.int (i % j), M) else none
  | _, _, _ => none
theorem so_mod : SO X ct (binaryOp .Mod) modD := by
  intro pins s σ H x y v u Q I rx ry h
  obtain ⟨ρ, M, d, e, r, dx, dy, z, M', hf, hq⟩ := h
  unfold modD at hf
  split at hf
  · split at hf
    · rename_i hl
      cases hf; cases dx; cases dy
      exact op_mod pins s σ H _ _ v u Q I rx ry ⟨_, _, rfl, rfl, hl, hq ρ H .refl r _ (.int _)⟩
    · cases hf
  · cases hf
def powD : Dv → Dv → Mem → Rz
  | .int i, .int j, M => if 0 ≤ j ∧ j ≤ 1000 ∧ i.natAbs < 2 ^ 64 then some (.int (i ^ j.toNat), M) else none
  | _, _, _ => none
theorem so_pow : SO X ct (binaryOp .Pow) powD := by
  intro pins s σ H x y v u Q I rx ry h
  obtain ⟨ρ, M, d, e, r, dx, dy, z, M', hf, hq⟩ := h
  unfold powD at hf
  split at hf
  · split at hf
    · rename_i hl
      cases hf; cases dx; cases dy
      exact op_pow pins s σ H _ _ v u Q I rx ry ⟨_, _, rfl, rfl, ⟨hl.1, by omega, hl.2.2⟩, hq ρ H .refl r _ (.int _)⟩
    · cases hf
  · cases hf
def negD : Dv → Mem → Rz
  | .int i, M => some (.int (-i), M)
  | _, _ => none
theorem su_neg : SU X ct (unaryOp .USub) negD := by
  intro pins s σ H x v Q I rx h
  obtain ⟨ρ, M, d, r, dx, z, M', hf, hq⟩ := h
  unfold negD at hf
  split at hf
  · cases hf; cases dx
    exact un_neg pins s σ H _ v Q I rx ⟨_, rfl, hq ρ H .refl r _ (.int _)⟩
  · cases hf

/-! ### the order of ints -/
def cmpI (p : Int → Int → Bool) : Dv → Dv → Mem → Rz
  | .int i, .int j, M => some (.bl (p i j), M)
  | _, _, _ => none
theorem so_cmpI {op : CmpOp} {p : Int → Int → Bool} (h0 : OpR X (compareOp op) (rI0 fun i j => .bl (p i j))) : SO X ct (compareOp op) (cmpI p) := by
  intro pins s σ H x y v u Q I rx ry h
  obtain ⟨ρ, M, d, e, r, dx, dy, z, M', hf, hq⟩ := h
  unfold cmpI at hf
  split at hf
  · cases hf; cases dx; cases dy
    exact h0 pins s σ H _ _ v u Q I rx ry ⟨_, _, rfl, rfl, hq ρ H .refl r _ (.bl _)⟩
  · cases hf
abbrev ltD := cmpI fun i j => decide (i < j)
abbrev leD := cmpI fun i j => decide (i ≤ j)
abbrev gtD := cmpI fun i j => decide (j < i)
abbrev geD := cmpI fun i j => decide (j ≤ i)
theorem so_lt : SO X ct (compareOp .Lt) ltD := so_cmpI op_lt
theorem so_le : SO X ct (compareOp .LtE) leD := so_cmpI op_le
theorem so_gt : SO X ct (compareOp .Gt) gtD := so_cmpI op_gt
theorem so_ge : SO X ct (compareOp .GtE) geD := so_cmpI op_ge

/-! ### data as a whole: ==, repr -/
def rdL (f : Dv → Option PyData) : List Dv → Option (List PyData)
  | [] => some []
  | x :: xs => match f x with
    | none => none
    | some p => match rdL f xs with
      | none => none
      | some ps => some (p :: ps)
def rd (M : Mem) : Nat → Dv → Option PyData
  | _, .non => some .none
  | _, .bl b => some (.bool b)
  | _, .int i => some (.int i)
  | _, .str x => some (.str x)
  | _, .ty _ => none
  | _, .pr _ => none
  | 0, _ => none
  | n + 1, .tup xs => match rdL (rd M n) xs with
    | some ps => some (.tuple ps)
    | none => none
  | n + 1, .rol xs => match rdL (rd M n) xs with
    | some ps => some (.list ps)
    | none => none
  | n + 1, .loc k => match M[k]? with
    | some (.lst xs) => match rdL (rd M n) xs with
      | some ps => some (.list ps)
      | none => none
    | _ => none
section
variable {K : Frg} {ρ : List Addr} {M : Mem} {H : Hp}
theorem rdL_dp {f : Dv → Option PyData} (hf : ∀ d v p, DV K ρ H d v → f d = some p → Dp K H v p) : ∀ {xs : List Dv} {vs : List V} {ps : List PyData}, DVs K ρ H xs vs → rdL f xs = some ps → DpAll K H vs ps
  | _, _, _, .nil, e => by cases e; exact .nil
  | _, _, _, .cons h t, e => by
    unfold rdL at e
    split at e
    · cases e
    · rename_i p hp
      split at e
      · cases e
      · rename_i qs hq
        cases e
        exact .cons (hf _ _ _ h hp) (rdL_dp hf t hq)
theorem rd_dp (r : Rl K ct ρ M H) : ∀ (n : Nat) {d : Dv} {v : V} {p : PyData}, DV K ρ H d v → rd M n d = some p → Dp K H v p
  | _, .non, _, _, h, e => by cases h; simp [rd] at e; subst e; exact .non
  | _, .bl b, _, _, h, e => by cases h; simp [rd] at e; subst e; exact .bl b
  | _, .int i, _, _, h, e => by cases h; simp [rd] at e; subst e; exact .int i
  | _, .str x, _, _, h, e => by cases h; simp [rd] at e; subst e; exact .str x
  | _, .ty _, _, _, h, e => by simp [rd] at e
  | _, .pr _, _, _, h, e => by simp [rd] at e
  | 0, .tup _, _, _, _, e => by simp [rd] at e
  | 0, .rol _, _, _, _, e => by simp [rd] at e
  | 0, .loc _, _, _, _, e => by simp [rd] at e
  | n + 1, .tup xs, _, _, h, e => by
    unfold rd at e
    split at e
    · rename_i ps hp
      cases e
      cases h with
      | tup hs hd => exact .tup hs.sq (rdL_dp (fun d v p h1 h2 => rd_dp r n h1 h2) hd hp)
    · cases e
  | n + 1, .rol xs, _, _, h, e => by
    unfold rd at e
    split at e
    · rename_i ps hp
      cases e
      cases h with
      | rol hs hd => exact .lst hs.sq (rdL_dp (fun d v p h1 h2 => rd_dp r n h1 h2) hd hp)
    · cases e
  | n + 1, .loc k, _, _, h, e => by
    unfold rd at e
    split at e
    · rename_i xs hm
      split at e
      · rename_i ps hp
        cases e
        obtain ⟨a, vs, rfl, a1, a2, a3⟩ := r.lst hm h
        exact .lst (SqL.of a2) (rdL_dp (fun d v p h1 h2 => rd_dp r n h1 h2) a3 hp)
      · cases e
    · cases e
end
def deep : Nat := 30
def eqD (neg : Bool) : Dv → Dv → Mem → Rz
  | .int i, .int j, M => some (.bl (xor neg (i == j)), M)
  | .str x, .str y, M => some (.bl (xor neg (x == y)), M)
  | x, y, M => match rd M deep x, rd M deep y with
    | some p, some q => if SeqAt.shaped p = true ∧ SeqAt.shaped q = true then some (.bl (xor neg (PyData.eqv p q)), M) else none
    | _, _ => none
theorem so_eq (hu : X.A.units + 64 < cLine) : SO X ct (compareOp .Eq) (eqD false) := by
  intro pins s σ H x y v u Q I rx ry h
  obtain ⟨ρ, M, d, e, r, dx, dy, z, M', hf, hq⟩ := h
  unfold eqD at hf
  split at hf
  · cases hf; cases dx; cases dy
    refine op_eq pins s σ H _ _ v u Q I rx ry ⟨rfl, ?_⟩
    rw [dec_int]
    exact hq ρ H .refl r _ (by rw [Bool.false_xor]; exact .bl _)
  · cases hf; cases dx; cases dy
    refine op_eq pins s σ H _ _ v u Q I rx ry ⟨rfl, ?_⟩
    rw [dec_str]
    exact hq ρ H .refl r _ (by rw [Bool.false_xor]; exact .bl _)
  · split at hf
    · rename_i p q hp hq'
      split at hf
      · rename_i hs
        cases hf
        exact op_eqD hu pins s σ H _ _ v u Q I rx ry ⟨p, q, rd_dp r _ dx hp, rd_dp r _ dy hq', hs.1, hs.2, hq ρ H .refl r _ (by rw [Bool.false_xor]; exact .bl _)⟩
      · cases hf
    · cases hf
theorem so_ne (hu : X.A.units + 64 < cLine) : SO X ct (compareOp .NotEq) (eqD true) := by
  intro pins s σ H x y v u Q I rx ry h
  obtain ⟨ρ, M, d, e, r, dx, dy, z, M', hf, hq⟩ := h
  unfold eqD at hf
  split at hf
  · cases hf; cases dx; cases dy
    refine op_ne pins s σ H _ _ v u Q I rx ry ⟨rfl, ?_⟩
    rw [dec_int]
    exact hq ρ H .refl r _ (by rw [Bool.true_xor]; exact .bl _)
  · cases hf; cases dx; cases dy
    refine op_ne pins s σ H _ _ v u Q I rx ry ⟨rfl, ?_⟩
    rw [dec_str]
    exact hq ρ H .refl r _ (by rw [Bool.true_xor]; exact .bl _)
  · split at hf
    · rename_i p q hp hq'
      split at hf
      · rename_i hs
        cases hf
        exact op_neD hu pins s σ H _ _ v u Q I rx ry ⟨p, q, rd_dp r _ dx hp, rd_dp r _ dy hq', hs.1, hs.2, hq ρ H .refl r _ (by rw [Bool.true_xor]; exact .bl _)⟩
      · cases hf
    · cases hf
/-! ### is None -/
def isNon : Dv → Bool
  | .non => true
  | _ => false
theorem isNon_of {K : Frg} {ρ : List Addr} {H : Hp} {d : Dv} {v : V} (h : DV K ρ H d v) : decide (v = .non) = isNon d := by cases h <;> rfl
def isD (neg : Bool) : Dv → Dv → Mem → Rz
  | d, .non, M => some (.bl (xor neg (isNon d)), M)
  | _, _, _ => none
theorem so_is : SO X ct (compareOp .Is) (isD false) := by
  intro pins s σ H x y v u Q I rx ry h
  obtain ⟨ρ, M, d, e, r, dx, dy, z, M', hf, hq⟩ := h
  unfold isD at hf
  split at hf
  · cases hf; cases dy
    exact op_isN pins s σ H _ _ v u Q I rx ry ⟨rfl, hq ρ H .refl r _ (by rw [isNon_of dx, Bool.false_xor]; exact .bl _)⟩
  · cases hf
theorem so_isnot : SO X ct (compareOp .IsNot) (isD true) := by
  intro pins s σ H x y v u Q I rx ry h
  obtain ⟨ρ, M, d, e, r, dx, dy, z, M', hf, hq⟩ := h
  unfold isD at hf
  split at hf
  · cases hf; cases dy
    exact op_notN pins s σ H _ _ v u Q I rx ry ⟨rfl, hq ρ H .refl r _ (by rw [isNon_of dx, Bool.true_xor]; exact .bl _)⟩
  · cases hf
end
end Zl

/-! text Z4 -/
namespace Zl
open PySem L2 PySem.Spec PyProof.Rows

/-! ### flat values -/
def flatD : Dv → Bool
  | .non => true
  | .bl _ => true
  | .int _ => true
  | .str _ => true
  | _ => false
def eqF : Dv → Dv → Bool
  | .non, .non => true
  | .bl a, .bl b => a == b
  | .bl a, .int b => (if a then 1 else 0) == b
  | .int a, .bl b => a == (if b then 1 else 0)
  | .int a, .int b => a == b
  | .str a, .str b => a == b
  | _, _ => false
def idxB (p : Dv → Bool) : List Dv → Option Nat
  | [] => none
  | y :: ys => if p y then some 0 else match idxB p ys with
    | some n => some (n + 1)
    | none => none
theorem idxB_some {p : Dv → Bool} : ∀ {ys : List Dv} {j : Nat}, idxB p ys = some j → (∃ z, ys[j]? = some z ∧ p z = true) ∧ ∀ (m : Nat) z, m < j → ys[m]? = some z → p z = false
  | [], j, h => by cases h
  | y :: ys, j, h => by
    unfold idxB at h
    split at h
    · rename_i hp
      cases h
      exact ⟨⟨y, rfl, hp⟩, fun m z hm => absurd hm (Nat.not_lt_zero m)⟩
    · rename_i hp
      split at h
      · rename_i n hn
        cases h
        obtain ⟨⟨z, h1, h2⟩, h3⟩ := idxB_some hn
        refine ⟨⟨z, by simpa using h1, h2⟩, fun m w hm hw => ?_⟩
        cases m with
        | zero => simp at hw; subst hw; simpa using hp
        | succ m => exact h3 m w (by omega) (by simpa using hw)
      · cases h
section
variable {K : Frg} {ρ : List Addr} {H : Hp}
theorem flat_of {d : Dv} {v : V} (h : DV K ρ H d v) : flatV v = flatD d := by cases h <;> rfl
theorem flats_of : ∀ {ds : List Dv} {vs : List V}, DVs K ρ H ds vs → vs.all flatV = ds.all flatD
  | _, _, .nil => rfl
  | _, _, .cons h t => by rw [List.all_cons, List.all_cons, flat_of h, flats_of t]
theorem eq_of {d e : Dv} {v u : V} (h : DV K ρ H d v) (h' : DV K ρ H e u) (f : flatD d = true) (f' : flatD e = true) : eqV v u = eqF d e := by
  cases h <;> cases h' <;> first | rfl | (exact absurd f (by decide)) | (exact absurd f' (by decide))
theorem any_of {x : Dv} {u : V} (hx : DV K ρ H x u) (fx : flatD x = true) : ∀ {ds : List Dv} {vs : List V}, DVs K ρ H ds vs → ds.all flatD = true → (vs.any fun y => eqV y u) = ds.any fun y => eqF y x
  | _, _, .nil, _ => rfl
  | _, _, .cons h t, f => by
    rw [List.all_cons, Bool.and_eq_true] at f
    rw [List.any_cons, List.any_cons, eq_of h hx f.1 fx, any_of hx fx t f.2]
theorem DVs.at_ {ds : List Dv} {vs : List V} {i : Int} {d : Dv} (h : DVs K ρ H ds vs) (e : atI ds i = some d) : ∃ v, atI vs i = some v ∧ DV K ρ H d v := by
  unfold atI at e ⊢
  rw [← h.length]
  cases q : ixN ds.length i with
  | none => rw [q] at e; cases e
  | some j =>
    rw [q] at e
    exact h.get e
theorem DVs.back : ∀ {ds : List Dv} {vs : List V} {i : Nat} {v : V}, DVs K ρ H ds vs → vs[i]? = some v → ∃ d, ds[i]? = some d ∧ DV K ρ H d v
  | _, _, _, _, .nil, e => by simp at e
  | _, _, 0, _, .cons h _, e => by simp at e; subst e; exact ⟨_, rfl, h⟩
  | _, _, i + 1, v, .cons _ r, e => by
    obtain ⟨u, h1, h2⟩ := DVs.back (i := i) (v := v) r (by simpa using e)
    exact ⟨u, by simpa using h1, h2⟩
end

section
variable {X : Cx} {ct : Ct} {e a b : Expr} {es : List Expr} {pos p : Pos} {fa fb : FE} {fr : FA}
/-! ### in -/
def inD (neg : Bool) : Dv → Dv → Mem → Rz
  | x, .tup ys, M => if flatD x && ys.all flatD then some (.bl (xor neg (ys.any fun y => eqF y x)), M) else none
  | x, .loc n, M => match M[n]? with
    | some (.lst ys) => if flatD x && ys.all flatD then some (.bl (xor neg (ys.any fun y => eqF y x)), M) else
      match rd M deep x, rdL (rd M deep) ys with
      | some p, some ps => if SeqAt.shaped p = true ∧ SeqAt.shaped (.list ps) = true then some (.bl (xor neg (ps.any fun z => PyData.eqv z p)), M) else none
      | _, _ => none
    | _ => none
  | .str x, .str y, M => match x.cps.toList with
    | [c] => some (.bl (xor neg (decide (c ∈ y.cps.toList))), M)
    | _ => none
  | _, _, _ => none
theorem one_sign {x : Str} {c : Nat} (h : x.cps.toList = [c]) : x = ⟨#[c]⟩ := by
  obtain ⟨a⟩ := x
  have : a = #[c] := by
    apply Array.toList_inj.mp
    simpa using h
  rw [this]
theorem so_in (hu : X.A.units + 65 < cLine) : SO X ct (compareOp .In) (inD false) := by
  intro pins s σ H x y v u Q I rx ry h
  obtain ⟨ρ, M, d, e, r, dx, dy, z, M', hf, hq⟩ := h
  unfold inD at hf
  split at hf
  · split at hf
    · rename_i hl
      rw [Bool.and_eq_true] at hl
      cases hf
      cases dy with
      | tup hs hd =>
        refine op_in_seq pins s σ H _ _ v u Q I rx ry ⟨_, _, rfl, .inr hs.sq, by rw [flat_of dx]; exact hl.1, by rw [flats_of hd]; exact hl.2, ?_⟩
        rw [if_neg (by decide)]
        refine hq ρ H .refl r _ ?_
        rw [Bool.false_xor]
        unfold inV
        rw [any_of dx hl.1 hd hl.2]
        exact .bl _
    · cases hf
  · split at hf
    · rename_i n M0 _ _ ys hm
      obtain ⟨a, vs, rfl, h1, h2, h3⟩ := r.lst hm dy
      split at hf
      · rename_i hl
        rw [Bool.and_eq_true] at hl
        cases hf
        refine op_in_seq pins s σ H _ _ v u Q I rx ry ⟨_, _, rfl, .inl (SqL.of h2), by rw [flat_of dx]; exact hl.1, by rw [flats_of h3]; exact hl.2, ?_⟩
        rw [if_neg (by decide)]
        refine hq ρ H .refl r _ ?_
        rw [Bool.false_xor]
        unfold inV
        rw [any_of dx hl.1 h3 hl.2]
        exact .bl _
      · split at hf
        · rename_i p ps hp hps
          split at hf
          · rename_i hs
            cases hf
            refine op_inD hu pins s σ H _ _ v u Q I rx ry ⟨p, ps, rd_dp r _ dx hp, .lst (SqL.of h2) (rdL_dp (fun d v p h1 h2 => rd_dp r _ h1 h2) h3 hps), hs.1, hs.2, ?_⟩
            exact hq ρ H .refl r _ (by rw [Bool.false_xor]; exact .bl _)
          · cases hf
        · cases hf
    · cases hf
  · split at hf
    · rename_i c hc
      cases hf; cases dx; cases dy
      exact op_in_sign pins s σ H _ _ v u Q I rx ry ⟨c, _, by rw [one_sign hc], rfl, hq ρ H .refl r _ (by rw [Bool.false_xor]; exact .bl _)⟩
    · cases hf
  · cases hf
theorem so_notin (hu : X.A.units + 65 < cLine) : SO X ct (compareOp .NotIn) (inD true) := by
  intro pins s σ H x y v u Q I rx ry h
  obtain ⟨ρ, M, d, e, r, dx, dy, z, M', hf, hq⟩ := h
  unfold inD at hf
  split at hf
  · split at hf
    · rename_i hl
      rw [Bool.and_eq_true] at hl
      cases hf
      cases dy with
      | tup hs hd =>
        refine op_notIn_seq pins s σ H _ _ v u Q I rx ry ⟨_, _, rfl, .inr hs.sq, by rw [flat_of dx]; exact hl.1, by rw [flats_of hd]; exact hl.2, ?_⟩
        rw [if_pos rfl]
        refine hq ρ H .refl r _ ?_
        rw [Bool.true_xor]
        unfold inV
        rw [any_of dx hl.1 hd hl.2]
        exact .bl _
    · cases hf
  · split at hf
    · rename_i n M0 _ _ ys hm
      obtain ⟨a, vs, rfl, h1, h2, h3⟩ := r.lst hm dy
      split at hf
      · rename_i hl
        rw [Bool.and_eq_true] at hl
        cases hf
        refine op_notIn_seq pins s σ H _ _ v u Q I rx ry ⟨_, _, rfl, .inl (SqL.of h2), by rw [flat_of dx]; exact hl.1, by rw [flats_of h3]; exact hl.2, ?_⟩
        rw [if_pos rfl]
        refine hq ρ H .refl r _ ?_
        rw [Bool.true_xor]
        unfold inV
        rw [any_of dx hl.1 h3 hl.2]
        exact .bl _
      · split at hf
        · rename_i p ps hp hps
          split at hf
          · rename_i hs
            cases hf
            refine op_notInD hu pins s σ H _ _ v u Q I rx ry ⟨p, ps, rd_dp r _ dx hp, .lst (SqL.of h2) (rdL_dp (fun d v p h1 h2 => rd_dp r _ h1 h2) h3 hps), hs.1, hs.2, ?_⟩
            exact hq ρ H .refl r _ (by rw [Bool.true_xor]; exact .bl _)
          · cases hf
        · cases hf
    · cases hf
  · split at hf
    · rename_i c hc
      cases hf; cases dx; cases dy
      exact op_notIn_sign pins s σ H _ _ v u Q I rx ry ⟨c, _, by rw [one_sign hc], rfl, hq ρ H .refl r _ (by rw [Bool.true_xor]; exact .bl _)⟩
    · cases hf
  · cases hf
/-! ### subscripts -/
def ixD : Dv → Dv → Mem → Rz
  | .tup xs, .int i, M => match atI xs i with
    | some d => some (d, M)
    | none => none
  | .pr xs, .int i, M => match atI xs i with
    | some d => some (d, M)
    | none => none
  | .rol xs, .int i, M => match atI xs i with
    | some d => some (d, M)
    | none => none
  | .loc n, .int i, M => match M[n]? with
    | some (.lst xs) => match atI xs i with
      | some d => some (d, M)
      | none => none
    | _ => none
  | .str x, .int i, M => if x.length ≤ sizeLine then match atI x.cps.toList i with
      | some c => some (.str ⟨#[c]⟩, M)
      | none => none
    else none
  | _, _, _ => none
theorem sx_seq : IxR X (tO X.K ct ixD) := by
  intro value slice pins s σ H x y v u Q I rx ry h hsub
  obtain ⟨ρ, M, d, e, r, dx, dy, z, M', hf, hq⟩ := h
  unfold ixD at hf
  split at hf
  · split at hf
    · rename_i d0 hd0
      cases hf; cases dy
      cases dx with
      | tup hs hd =>
        obtain ⟨w, h1, h2⟩ := hd.at_ hd0
        exact ix_seq value slice pins s σ H _ _ v u Q I rx ry (.inr (.inl ⟨_, _, _, w, rfl, rfl, hs.sq, h1, hq ρ H .refl r _ h2⟩)) hsub
    · cases hf
  · split at hf
    · rename_i d0 hd0
      cases hf; cases dy
      cases dx with
      | pr hs hd =>
        obtain ⟨w, h1, h2⟩ := hd.at_ hd0
        exact ix_seq value slice pins s σ H _ _ v u Q I rx ry (.inr (.inl ⟨_, _, _, w, rfl, rfl, hs, h1, hq ρ H .refl r _ h2⟩)) hsub
    · cases hf
  · split at hf
    · rename_i d0 hd0
      cases hf; cases dy
      cases dx with
      | rol hs hd =>
        obtain ⟨w, h1, h2⟩ := hd.at_ hd0
        exact ix_seq value slice pins s σ H _ _ v u Q I rx ry (.inl ⟨_, _, _, w, rfl, rfl, hs.sq, h1, hq ρ H .refl r _ h2⟩) hsub
    · cases hf
  · split at hf
    · rename_i hm
      split at hf
      · rename_i d0 hd0
        cases hf; cases dy
        obtain ⟨a, vs, rfl, a1, a2, a3⟩ := r.lst hm dx
        obtain ⟨w, h1, h2⟩ := a3.at_ hd0
        exact ix_seq value slice pins s σ H _ _ v u Q I rx ry (.inl ⟨_, _, _, w, rfl, rfl, SqL.of a2, h1, hq ρ H .refl r _ h2⟩) hsub
      · cases hf
    · cases hf
  · split at hf
    · rename_i hl
      split at hf
      · rename_i c hc
        cases hf; cases dx; cases dy
        exact ix_seq value slice pins s σ H _ _ v u Q I rx ry (.inr (.inr ⟨_, _, c, rfl, rfl, hl, hc, hq ρ H .refl r _ (.str _)⟩)) hsub
      · cases hf
    · cases hf
  · cases hf
theorem se_ix (ha : SE X ct a fa) (hb : SE X ct b fb) (hs : PlainIx b := by intro _ _; rfl) : SE X ct (.Subscript a b pos) (fO ixD fa fb) :=
  PE.imp (pe_ix sx_seq ha hb hs) fun _ _ _ w => op_imp w
/-! ### slices -/
abbrev FO := En → Mem → Option (Option Int × Mem)
def tPo (K : Frg) (ct : Ct) (f : FO) : TO := fun σ H Q => ∃ ρ M env, Rl K ct ρ M H ∧ EnOk K ρ H env σ ∧ ∃ o M', f env M = some (o, M') ∧ Aft K ct ρ H M' fun _ H' => Q o H'
abbrev SPo (X : Cx) (ct : Ct) (e : Option Expr) (f : FO) : Prop := PO X e (tPo X.K ct f)
theorem PO.imp {e : Option Expr} {t t' : TO} (h : PO X e t) (k : ∀ σ H Q, t' σ H Q → t σ H Q) : PO X e t' := ⟨fun pins s σ H Q I w => h.run pins s σ H Q I (k σ H Q w)⟩
def fNoP : FO := fun _ M => some (none, M)
def fP (f : FE) : FO := fun env M => bnd (f env M) fun d M1 => match d with
  | .int i => some (some i, M1)
  | _ => none
theorem so_none : SPo X ct none fNoP := PO.imp po_none fun σ H Q ⟨ρ, M, env, r, he, o, M', hf, hq⟩ => by
  cases hf
  exact hq ρ H .refl r
theorem so_some (h : SE X ct e fa) : SPo X ct (some e) (fP fa) := PO.imp (po_some h) fun σ H Q ⟨ρ, M, env, r, he, o, M', hf, hq⟩ => by
  obtain ⟨x, M1, h1, hf⟩ := bnd_some hf
  split at hf
  · cases hf
    exact ⟨ρ, M, env, r, he, _, _, h1, fun ρ1 H1 e1 r1 v dv => by cases dv; exact ⟨_, rfl, hq ρ1 H1 e1 r1⟩⟩
  · cases hf
/-- the part from lo to hi -/
def cutD (xs : List Dv) (lo hi : Option Int) : List Dv := (xs.drop (HT.sIx xs.length 0 lo)).take (HT.sIx xs.length xs.length hi - HT.sIx xs.length 0 lo)
theorem DVs.cut {K : Frg} {ρ : List Addr} {H : Hp} {ds : List Dv} {vs : List V} (h : DVs K ρ H ds vs) (lo hi : Option Int) : DVs K ρ H (cutD ds lo hi) (cutV vs lo hi) := by
  unfold cutD cutV
  rw [h.length]
  exact (h.drop _).take _
def slD (x : Dv) (lo hi : Option Int) (M : Mem) : Rz :=
  match x with
  | .tup xs => some (.tup (cutD xs lo hi), M)
  | .rol xs => some (.loc M.length, M ++ [.lst (cutD xs lo hi)])
  | .loc n => match M[n]? with
    | some (.lst xs) => some (.loc M.length, M ++ [.lst (cutD xs lo hi)])
    | _ => none
  | .str z => if z.length ≤ sizeLine then some (.str (cutS z lo hi), M) else none
  | _ => none
def tSlz (K : Frg) (ct : Ct) : V → Option Int → Option Int → Hp → VK → Prop := fun x lo hi H Q => ∃ ρ M d, Rl K ct ρ M H ∧ DV K ρ H d x ∧ ∃ z M', slD d lo hi M = some (z, M') ∧ Aft K ct ρ H M' fun ρ' H' => ∀ v, DV K ρ' H' z v → Q v H'
/-- t[lo:hi] of a tuple, locked where it is new -/
theorem sl_tupF : SlR X (fun x lo hi H Q => ∃ a xs, x = .ref a ∧ SqT X.K H a xs ∧
    (HT.sIx xs.length 0 lo = 0 ∧ HT.sIx xs.length xs.length hi = xs.length → Q (.ref a) H) ∧ (¬ (HT.sIx xs.length 0 lo = 0 ∧ HT.sIx xs.length xs.length hi = xs.length) → ∀ p o, H p = none → o.dict = none → Q (.ref p) (upd H p (.frz o (.tup (cutV xs lo hi)))))) := by
  intro pins s σ H x v vl vu lo hi sl Q I rx hs pl pu h
  obtain ⟨a, xs, rfl, hx, q1, q2⟩ := h
  cases rx
  obtain ⟨us, r, ht, hz⟩ := I.tuple hx
  have hlen : us.toArray.size = xs.length := by rw [List.size_toArray, r.length]
  refine ⟨"tuple", _, PyProof.Rows.slot_tuple_getitem.lookup, ht.typeIs, ?_⟩
  by_cases hw : HT.sIx xs.length 0 lo = 0 ∧ HT.sIx xs.length xs.length hi = xs.length
  · exact getItem_tuple_whole ht hs pl pu (by rw [hlen]; exact hw) ⟨V.ref a, H, I, rfl, q1 hw⟩
  · refine HT.getItem_tuple_cut ht hs pl pu (by rw [hlen]; exact hw) ?_ ?_
    · rw [hlen]
      exact ⟨V.ref s.heap.objs.size, _, layT (tk := s.toks) I ((r.drop _).take _) (Nat.le_trans (cutV_length xs lo hi) hz), rfl, q2 hw _ _ (I.hok.fresh (Nat.le_refl _)) rfl⟩
    · rw [hlen]; exact hz
theorem cut_whole {xs : List Dv} {lo hi : Option Int} (h : HT.sIx xs.length 0 lo = 0 ∧ HT.sIx xs.length xs.length hi = xs.length) : cutD xs lo hi = xs := by
  unfold cutD
  rw [h.1, h.2, List.drop_zero, Nat.sub_zero, List.take_length]
theorem sl_all : SlR X (tSlz X.K ct) := by
  intro pins s σ H x v vl vu lo hi sl Q I rx hs pl pu h
  obtain ⟨ρ, M, d, r, dx, z, M', hf, hq⟩ := h
  unfold slD at hf
  split at hf
  · cases hf
    cases dx with
    | tup h1 d1 =>
      refine sl_tupF pins s σ H _ v vl vu lo hi sl Q I rx hs pl pu ⟨_, _, rfl, h1.sq, fun hw => ?_, fun _ p o hp ho => ?_⟩
      · rw [← d1.length] at hw
        exact hq ρ H .refl r _ (by rw [cut_whole hw]; exact .tup h1 d1)
      · exact hq ρ _ (Ext.fresh hp) (r.tup hp _) _ (.tup (TupD.new ho) ((d1.cut lo hi).mono (Ext.fresh hp)))
  · cases hf
    cases dx with
    | rol h1 d1 =>
      refine sl_list pins s σ H _ v vl vu lo hi sl Q I rx hs pl pu ⟨_, _, rfl, h1.sq, fun p hp => ?_⟩
      obtain ⟨r2, e2, h2⟩ := r.newL hp (d1.cut lo hi)
      exact hq _ _ e2 r2 _ (.loc h2)
  · split at hf
    · rename_i hm
      cases hf
      obtain ⟨a, vs, rfl, a1, a2, a3⟩ := r.lst hm dx
      refine sl_list pins s σ H _ v vl vu lo hi sl Q I rx hs pl pu ⟨_, _, rfl, SqL.of a2, fun p hp => ?_⟩
      obtain ⟨r2, e2, h2⟩ := r.newL hp (a3.cut lo hi)
      exact hq _ _ e2 r2 _ (.loc h2)
    · cases hf
  · split at hf
    · rename_i hz
      cases hf; cases dx
      exact sl_str pins s σ H _ v vl vu lo hi sl Q I rx hs pl pu ⟨_, rfl, hz, hq ρ H .refl r _ (.str _)⟩
    · cases hf
  · cases hf
def fSl (f : FE) (g h : FO) : FE := fun env M => bnd (f env M) fun d M1 => bnd (g env M1) fun lo M2 => bnd (h env M2) fun hi M3 => slD d lo hi M3
theorem se_slice {lo hi : Option Expr} {g h : FO} {p2 : Pos} (ha : SE X ct a fa) (hl : SPo X ct lo g) (hh : SPo X ct hi h) : SE X ct (.Subscript a (.Slice lo hi none p2) pos) (fSl fa g h) :=
  PE.imp (pe_slice sl_all ha hl hh) fun σ H Q ⟨ρ, M, env, r, he, d, M', hf, hq⟩ => by
    obtain ⟨x, M1, h1, hf⟩ := bnd_some hf
    obtain ⟨o, M2, h2, hf⟩ := bnd_some hf
    obtain ⟨o', M3, h3, hf⟩ := bnd_some hf
    exact ⟨ρ, M, env, r, he, x, M1, h1, fun ρ1 H1 e1 r1 v dv => ⟨ρ1, M1, env, r1, he.mono e1, o, M2, h2, fun ρ2 H2 e2 r2 => ⟨ρ2, M2, env, r2, (he.mono e1).mono e2, o', M3, h3, fun ρ3 H3 e3 r3 =>
      ⟨ρ3, M3, x, r3, (dv.mono e2).mono e3, d, M', hf, hq.later ((e1.trans e2).trans e3)⟩⟩⟩⟩
end
end Zl

/-! text Z5 -/
namespace Zl
open PySem L2 PySem.Spec PyProof.Rows

/-- the items of a thing that can be walked whole: tuple, list -/
def itemsD (M : Mem) : Dv → Option (List Dv)
  | .tup xs => some xs
  | .pr xs => some xs
  | .rol xs => some xs
  | .loc n => match M[n]? with
    | some (.lst xs) => some xs
    | _ => none
  | _ => none
def intsD : List Dv → Option (List Int)
  | [] => some []
  | .int i :: r => match intsD r with
    | some ns => some (i :: ns)
    | none => none
  | _ :: _ => none
def blsD : List Dv → Option (List Bool)
  | [] => some []
  | .bl b :: r => match blsD r with
    | some bs => some (b :: bs)
    | none => none
  | _ :: _ => none
section
variable {K : Frg} {ct : Ct} {ρ : List Addr} {M : Mem} {H : Hp}
theorem items_sq (r : Rl K ct ρ M H) {d : Dv} {v : V} {xs : List Dv} (h : DV K ρ H d v) (e : itemsD M d = some xs) : ∃ a vs, v = .ref a ∧ DVs K ρ H xs vs ∧ (SqL K H a vs ∨ SqT K H a vs) := by
  unfold itemsD at e
  split at e
  · cases e
    cases h with
    | tup hs hd => exact ⟨_, _, rfl, hd, .inr hs.sq⟩
  · cases e
    cases h with
    | pr hs hd => exact ⟨_, _, rfl, hd, .inr hs⟩
  · cases e
    cases h with
    | rol hs hd => exact ⟨_, _, rfl, hd, .inl hs.sq⟩
  · split at e
    · rename_i hm
      cases e
      obtain ⟨a, vs, rfl, a1, a2, a3⟩ := r.lst hm h
      exact ⟨a, vs, rfl, a3, .inl (SqL.of a2)⟩
    · cases e
  · cases e
theorem ints_of : ∀ {xs : List Dv} {vs : List V} {ns : List Int}, DVs K ρ H xs vs → intsD xs = some ns → vs = ns.map V.int
  | _, _, _, .nil, e => by cases e; rfl
  | .int i :: r, _, _, .cons h t, e => by
    unfold intsD at e
    split at e
    · rename_i ns hn
      cases e; cases h
      rw [ints_of t hn]; rfl
    · cases e
theorem bls_of : ∀ {xs : List Dv} {vs : List V} {ns : List Bool}, DVs K ρ H xs vs → blsD xs = some ns → vs = ns.map V.bl
  | _, _, _, .nil, e => by cases e; rfl
  | .bl i :: r, _, _, .cons h t, e => by
    unfold blsD at e
    split at e
    · rename_i ns hn
      cases e; cases h
      rw [bls_of t hn]; rfl
    · cases e
theorem dvs_nil {vs : List V} (h : DVs K ρ H [] vs) : vs = [] := by cases h; rfl
theorem dvs_one {d : Dv} {vs : List V} (h : DVs K ρ H [d] vs) : ∃ v, vs = [v] ∧ DV K ρ H d v := by
  cases h with
  | cons h t => cases t; exact ⟨_, rfl, h⟩
theorem dvs_two {d e : Dv} {vs : List V} (h : DVs K ρ H [d, e] vs) : ∃ v u, vs = [v, u] ∧ DV K ρ H d v ∧ DV K ρ H e u := by
  cases h with
  | cons h t =>
    obtain ⟨u, rfl, h2⟩ := dvs_one t
    exact ⟨_, u, rfl, h, h2⟩
end
def maxI : Int → List Int → Int
  | m, [] => m
  | m, x :: xs => maxI (if x > m then x else m) xs
def minI : Int → List Int → Int
  | m, [] => m
  | m, x :: xs => minI (if x < m then x else m) xs
theorem maxI_ok : ∀ (xs : List Int) (m : Int), maxI m xs ∈ m :: xs ∧ ∀ y ∈ m :: xs, y ≤ maxI m xs
  | [], m => ⟨by simp [maxI], by simp [maxI]⟩
  | x :: xs, m => by
    obtain ⟨h1, h2⟩ := maxI_ok xs (if x > m then x else m)
    have h3 := h2 _ List.mem_cons_self
    refine ⟨?_, fun y hy => ?_⟩
    · unfold maxI
      rcases List.mem_cons.mp h1 with e | e
      · rw [e]; split <;> simp
      · exact List.mem_cons_of_mem _ (List.mem_cons_of_mem _ e)
    · unfold maxI
      rcases List.mem_cons.mp hy with e | hy
      · have h4 : y ≤ (if x > y then x else y) := by split <;> omega
        subst e; omega
      · rcases List.mem_cons.mp hy with e | hy
        · have h4 : y ≤ (if y > m then y else m) := by split <;> omega
          subst e; omega
        · exact h2 _ (List.mem_cons_of_mem _ hy)
theorem minI_ok : ∀ (xs : List Int) (m : Int), minI m xs ∈ m :: xs ∧ ∀ y ∈ m :: xs, minI m xs ≤ y
  | [], m => ⟨by simp [minI], by simp [minI]⟩
  | x :: xs, m => by
    obtain ⟨h1, h2⟩ := minI_ok xs (if x < m then x else m)
    have h3 := h2 _ List.mem_cons_self
    refine ⟨?_, fun y hy => ?_⟩
    · unfold minI
      rcases List.mem_cons.mp h1 with e | e
      · rw [e]; split <;> simp
      · exact List.mem_cons_of_mem _ (List.mem_cons_of_mem _ e)
    · unfold minI
      rcases List.mem_cons.mp hy with e | hy
      · have h4 : (if x < y then x else y) ≤ y := by split <;> omega
        subst e; omega
      · rcases List.mem_cons.mp hy with e | hy
        · have h4 : (if y < m then y else m) ≤ y := by split <;> omega
          subst e; omega
        · exact h2 _ (List.mem_cons_of_mem _ hy)

section
variable {X : Cx} {ct : Ct} {e a b : Expr} {es : List Expr} {pos p : Pos} {fa fb : FE} {fr : FA}
/-! ### built-ins by values -/
def lenD : List Dv → Mem → Rz
  | [.str x], M => if x.length ≤ sizeLine then some (.int x.length, M) else none
  | [d], M => match itemsD M d with
    | some xs => some (.int xs.length, M)
    | none => none
  | _, _ => none
theorem sc_len : SC X ct (.builtin "len") lenD := by
  intro pins s σ H xs us Q I rv h
  obtain ⟨ρ, M, ds, r, dv, z, M', hf, hq⟩ := h
  unfold lenD at hf
  split at hf
  · split at hf
    · rename_i hl
      cases hf
      obtain ⟨v, rfl, d1⟩ := dvs_one dv
      cases d1
      exact call_len_str pins s σ H _ us Q I rv ⟨_, rfl, hl, hq ρ H .refl r _ (.int _)⟩
    · cases hf
  · split at hf
    · rename_i ys hy
      cases hf
      obtain ⟨v, rfl, d1⟩ := dvs_one dv
      obtain ⟨a, vs, rfl, d2, hs⟩ := items_sq r d1 hy
      refine call_len_seq pins s σ H _ us Q I rv ⟨_, _, rfl, hs, hq ρ H .refl r _ ?_⟩
      rw [d2.length]; exact .int _
    · cases hf
  · cases hf
def intD : List Dv → Mem → Rz
  | [.int i], M => some (.int i, M)
  | [.bl k], M => some (.int (if k then 1 else 0), M)
  | _, _ => none
theorem sc_int : SC X ct (.type "int") intD := by
  intro pins s σ H xs us Q I rv h
  obtain ⟨ρ, M, ds, r, dv, z, M', hf, hq⟩ := h
  unfold intD at hf
  split at hf
  · cases hf
    obtain ⟨v, rfl, d1⟩ := dvs_one dv
    cases d1
    exact call_int1 pins s σ H _ us Q I rv (.inl ⟨_, rfl, hq ρ H .refl r _ (.int _)⟩)
  · cases hf
    obtain ⟨v, rfl, d1⟩ := dvs_one dv
    cases d1
    exact call_int1 pins s σ H _ us Q I rv (.inr ⟨_, rfl, hq ρ H .refl r _ (.int _)⟩)
  · cases hf
def absD : List Dv → Mem → Rz
  | [.int i], M => some (.int (if i < 0 then -i else i), M)
  | _, _ => none
theorem sc_abs : SC X ct (.builtin "abs") absD := by
  intro pins s σ H xs us Q I rv h
  obtain ⟨ρ, M, ds, r, dv, z, M', hf, hq⟩ := h
  unfold absD at hf
  split at hf
  · cases hf
    obtain ⟨v, rfl, d1⟩ := dvs_one dv
    cases d1
    exact call_abs pins s σ H _ us Q I rv ⟨_, rfl, hq ρ H .refl r _ (.int _)⟩
  · cases hf
def maxD : List Dv → Mem → Rz
  | [.int i, .int j], M => some (.int (if j > i then j else i), M)
  | [.loc n], M => match M[n]? with
    | some (.lst xs) => match intsD xs with
      | some (m :: ms) => some (.int (maxI m ms), M)
      | _ => none
    | _ => none
  | _, _ => none
theorem sc_max (hc : X.calm = true) : SC X ct (.builtin "max") maxD := by
  intro pins s σ H xs us Q I rv h
  obtain ⟨ρ, M, ds, r, dv, z, M', hf, hq⟩ := h
  unfold maxD at hf
  split at hf
  · cases hf
    obtain ⟨v, u, rfl, d1, d2⟩ := dvs_two dv
    cases d1; cases d2
    exact call_max2 hc pins s σ H _ us Q I rv ⟨_, _, rfl, hq ρ H .refl r _ (.int _)⟩
  · split at hf
    · rename_i hm
      split at hf
      · rename_i m ms hi
        cases hf
        obtain ⟨v, rfl, d1⟩ := dvs_one dv
        obtain ⟨a, vs, rfl, a1, a2, a3⟩ := r.lst hm d1
        have e := ints_of a3 hi
        subst e
        refine cr_max hc pins s σ H _ us Q I rv ⟨_, _, rfl, SqL.of a2, by simp, fun k hk hy => ?_⟩
        obtain ⟨o1, o2⟩ := maxI_ok ms m
        have e1 := hy _ o1
        have e2 := o2 _ hk
        have e3 : k = maxI m ms := by omega
        subst e3
        exact hq ρ H .refl r _ (.int _)
      · cases hf
    · cases hf
  · cases hf
def minD : List Dv → Mem → Rz
  | [.int i, .int j], M => some (.int (if j < i then j else i), M)
  | [.loc n], M => match M[n]? with
    | some (.lst xs) => match intsD xs with
      | some (m :: ms) => some (.int (minI m ms), M)
      | _ => none
    | _ => none
  | _, _ => none
theorem sc_min (hc : X.calm = true) : SC X ct (.builtin "min") minD := by
  intro pins s σ H xs us Q I rv h
  obtain ⟨ρ, M, ds, r, dv, z, M', hf, hq⟩ := h
  unfold minD at hf
  split at hf
  · cases hf
    obtain ⟨v, u, rfl, d1, d2⟩ := dvs_two dv
    cases d1; cases d2
    exact call_min2 hc pins s σ H _ us Q I rv ⟨_, _, rfl, hq ρ H .refl r _ (.int _)⟩
  · split at hf
    · rename_i hm
      split at hf
      · rename_i m ms hi
        cases hf
        obtain ⟨v, rfl, d1⟩ := dvs_one dv
        obtain ⟨a, vs, rfl, a1, a2, a3⟩ := r.lst hm d1
        have e := ints_of a3 hi
        subst e
        refine cr_min hc pins s σ H _ us Q I rv ⟨_, _, rfl, SqL.of a2, by simp, fun k hk hy => ?_⟩
        obtain ⟨o1, o2⟩ := minI_ok ms m
        have e1 := hy _ o1
        have e2 := o2 _ hk
        have e3 : k = minI m ms := by omega
        subst e3
        exact hq ρ H .refl r _ (.int _)
      · cases hf
    · cases hf
  · cases hf
def sumD : List Dv → Mem → Rz
  | [.loc n], M => match M[n]? with
    | some (.lst xs) => match intsD xs with
      | some ns => some (.int ns.sum, M)
      | _ => none
    | _ => none
  | _, _ => none
theorem sc_sum (hc : X.calm = true) : SC X ct (.builtin "sum") sumD := by
  intro pins s σ H xs us Q I rv h
  obtain ⟨ρ, M, ds, r, dv, z, M', hf, hq⟩ := h
  unfold sumD at hf
  split at hf
  · split at hf
    · rename_i hm
      split at hf
      · rename_i ns hi
        cases hf
        obtain ⟨v, rfl, d1⟩ := dvs_one dv
        obtain ⟨a, vs, rfl, a1, a2, a3⟩ := r.lst hm d1
        have e := ints_of a3 hi
        subst e
        exact cr_sum hc pins s σ H _ us Q I rv ⟨_, _, rfl, SqL.of a2, hq ρ H .refl r _ (.int _)⟩
      · cases hf
    · cases hf
  · cases hf
def allD : List Dv → Mem → Rz
  | [.loc n], M => match M[n]? with
    | some (.lst xs) => match blsD xs with
      | some bs => some (.bl (bs.all id), M)
      | _ => none
    | _ => none
  | _, _ => none
def anyD : List Dv → Mem → Rz
  | [.loc n], M => match M[n]? with
    | some (.lst xs) => match blsD xs with
      | some bs => some (.bl (bs.any id), M)
      | _ => none
    | _ => none
  | _, _ => none
theorem sc_all (hc : X.calm = true) : SC X ct (.builtin "all") allD := by
  intro pins s σ H xs us Q I rv h
  obtain ⟨ρ, M, ds, r, dv, z, M', hf, hq⟩ := h
  unfold allD at hf
  split at hf
  · split at hf
    · rename_i hm
      split at hf
      · rename_i ns hi
        cases hf
        obtain ⟨v, rfl, d1⟩ := dvs_one dv
        obtain ⟨a, vs, rfl, a1, a2, a3⟩ := r.lst hm d1
        have e := bls_of a3 hi
        subst e
        exact cr_all hc pins s σ H _ us Q I rv ⟨_, _, rfl, SqL.of a2, hq ρ H .refl r _ (.bl _)⟩
      · cases hf
    · cases hf
  · cases hf
theorem sc_any (hc : X.calm = true) : SC X ct (.builtin "any") anyD := by
  intro pins s σ H xs us Q I rv h
  obtain ⟨ρ, M, ds, r, dv, z, M', hf, hq⟩ := h
  unfold anyD at hf
  split at hf
  · split at hf
    · rename_i hm
      split at hf
      · rename_i ns hi
        cases hf
        obtain ⟨v, rfl, d1⟩ := dvs_one dv
        obtain ⟨a, vs, rfl, a1, a2, a3⟩ := r.lst hm d1
        have e := bls_of a3 hi
        subst e
        exact cr_any hc pins s σ H _ us Q I rv ⟨_, _, rfl, SqL.of a2, hq ρ H .refl r _ (.bl _)⟩
      · cases hf
    · cases hf
  · cases hf
/-- tuple(list): locked; tuple(tuple): itself -/
theorem call_tupF : CallR X (.type "tuple") (fun xs H Q => ∃ p ys, xs = [.ref p] ∧ ((SqL X.K H p ys ∧ ∀ l o, H l = none → o.dict = none → Q (.ref l) (upd H l (.frz o (.tup ys)))) ∨ (SqT X.K H p ys ∧ Q (.ref p) H))) := by
  intro pins s σ H xs us Q I rv h
  obtain ⟨p, ys, rfl, h⟩ := h
  obtain ⟨u, rfl, rx⟩ := vals1 rv
  cases rx
  rcases h with ⟨hl, q⟩ | ⟨ht, q⟩
  · obtain ⟨ws, rw', pl, hz⟩ := I.list hl
    have hlen := rw'.length
    refine call_tuple_list pl.isList (fun h' kp => ?_) (by simp only [List.size_toArray]; omega)
    have J : Inv X pins σ H { s with heap := h' } := I.kept (t' := s.toks) kp
    exact ⟨V.ref h'.objs.size, _, layT (tk := s.toks) J rw' hz, rfl, q _ _ (J.hok.fresh (Nat.le_refl _)) rfl⟩
  · obtain ⟨ws, rw', pl, hz⟩ := I.tuple ht
    exact call_tuple_same pl ⟨V.ref p, H, I, rfl, q⟩
def tupD : List Dv → Mem → Rz
  | [.tup xs], M => some (.tup xs, M)
  | [.loc n], M => match M[n]? with
    | some (.lst xs) => some (.tup xs, M)
    | _ => none
  | _, _ => none
theorem sc_tuple : SC X ct (.type "tuple") tupD := by
  intro pins s σ H xs us Q I rv h
  obtain ⟨ρ, M, ds, r, dv, z, M', hf, hq⟩ := h
  unfold tupD at hf
  split at hf
  · cases hf
    obtain ⟨v, rfl, d1⟩ := dvs_one dv
    cases d1 with
    | tup hs hd => exact call_tupF pins s σ H _ us Q I rv ⟨_, _, rfl, .inr ⟨hs.sq, hq ρ H .refl r _ (.tup hs hd)⟩⟩
  · split at hf
    · rename_i hm
      cases hf
      obtain ⟨v, rfl, d1⟩ := dvs_one dv
      obtain ⟨a, vs, rfl, a1, a2, a3⟩ := r.lst hm d1
      exact call_tupF pins s σ H _ us Q I rv ⟨_, _, rfl, .inl ⟨SqL.of a2, fun p o hp ho => hq ρ _ (Ext.fresh hp) (r.tup hp _) _ (.tup (TupD.new ho) (a3.mono (Ext.fresh hp)))⟩⟩
    · cases hf
  · cases hf
def lstD : List Dv → Mem → Rz
  | [d], M => match itemsD M d with
    | some xs => some (.loc M.length, M ++ [.lst xs])
    | none => none
  | _, _ => none
theorem sc_list : SC X ct (.type "list") lstD := by
  intro pins s σ H xs us Q I rv h
  obtain ⟨ρ, M, ds, r, dv, z, M', hf, hq⟩ := h
  unfold lstD at hf
  split at hf
  · split at hf
    · rename_i ys hy
      cases hf
      obtain ⟨v, rfl, d1⟩ := dvs_one dv
      obtain ⟨a, vs, rfl, d2, hs⟩ := items_sq r d1 hy
      refine call_list_of pins s σ H _ us Q I rv ⟨_, _, rfl, hs, fun p hp => ?_⟩
      obtain ⟨r2, e2, h2⟩ := r.newL hp d2
      exact hq _ _ e2 r2 _ (.loc h2)
    · cases hf
  · cases hf
def divmodD : List Dv → Mem → Rz
  | [.int i, .int j], M => if 0 < j ∧ j < 1073741824 then some (.pr [.int (i / j), .int (i % j)], M) else none
  | _, _ => none
theorem sc_divmod : SC X ct (.builtin "divmod") divmodD := by
  intro pins s σ H xs us Q I rv h
  obtain ⟨ρ, M, ds, r, dv, z, M', hf, hq⟩ := h
  unfold divmodD at hf
  split at hf
  · split at hf
    · rename_i hl
      cases hf
      obtain ⟨v, u, rfl, d1, d2⟩ := dvs_two dv
      cases d1; cases d2
      exact call_divmod pins s σ H _ us Q I rv ⟨_, _, rfl, hl, fun p hp => hq ρ _ (Ext.fresh hp) (r.tup hp _) _ (.pr (SqT.of upd_same) (.cons (.int _) (.cons (.int _) .nil)))⟩
    · cases hf
  · cases hf
/-! ### isinstance of a built-in type -/
def tyName (M : Mem) : Dv → Option String
  | .non => some "NoneType"
  | .bl _ => some "bool"
  | .int _ => some "int"
  | .str _ => some "str"
  | .tup _ => some "tuple"
  | .rol _ => some "list"
  | .loc n => match M[n]? with
    | some (.lst _) => some "list"
    | some (.dct _) => some "dict"
    | _ => none
  | _ => none
def tyIs (T a : String) : Bool := a == T || (T == "int" && a == "bool")
def isiD : List Dv → Mem → Rz
  | [d, .ty T], M => if ["int", "bool", "str", "tuple", "list"].contains T then match tyName M d with
      | some a => some (.bl (tyIs T a), M)
      | none => none
    else none
  | _, _ => none
theorem kit_all : (["int", "bool", "str", "tuple", "list"].all fun T => ["NoneType", "bool", "int", "str", "tuple", "list", "dict"].all fun a => kitB a T == some (tyIs T a)) = true := by decide +kernel
theorem kit_two {T a : String} (h1 : ["int", "bool", "str", "tuple", "list"].contains T = true) (h2 : ["NoneType", "bool", "int", "str", "tuple", "list", "dict"].contains a = true) : kitB a T = some (tyIs T a) := by
  have h := kit_all
  rw [List.all_eq_true] at h
  have h3 := h T (by simpa using h1)
  rw [List.all_eq_true] at h3
  exact eq_of_beq (h3 a (by simpa using h2))
theorem tyName_ok {ρ : List Addr} {M : Mem} {H : Hp} {K : Frg} (r : Rl K ct ρ M H) {d : Dv} {v : V} {a : String} (h : DV K ρ H d v) (e : tyName M d = some a) :
    TyX K H v (.type a) ∧ ["NoneType", "bool", "int", "str", "tuple", "list", "dict"].contains a = true := by
  unfold tyName at e
  split at e
  · cases e; cases h; exact ⟨.base .non, by decide⟩
  · cases e; cases h; exact ⟨.base (.bl _), by decide⟩
  · cases e; cases h; exact ⟨.base (.int _), by decide⟩
  · cases e; cases h; exact ⟨.base (.str _), by decide⟩
  · cases e
    cases h with
    | tup hs hd =>
      refine ⟨?_, by decide⟩
      rcases hs with ⟨o, hs, _⟩ | ⟨o, its, n, h1, h2, _⟩
      · exact .fTuple hs
      · exact .kTuple h1 h2
  · cases e
    cases h with
    | rol hs hd =>
      refine ⟨?_, by decide⟩
      rcases hs with ⟨o, hs⟩ | ⟨_, o, h1, h2⟩
      · exact .base (.frz hs)
      · exact .kList h1 h2
  · split at e
    · rename_i hm
      cases e
      obtain ⟨a, vs, rfl, a1, a2, a3⟩ := r.lst hm h
      exact ⟨.base (.lst a2), by decide⟩
    · rename_i hm
      cases e
      obtain ⟨a, h1, vs, h2, h3, h4⟩ := r.ok _ _ hm
      cases h with
      | loc h => rw [h] at h1; cases h1; exact ⟨.base (.dK h2), by decide⟩
    · cases e
  · cases e
theorem sc_isi : SC X ct (.builtin "isinstance") isiD := by
  intro pins s σ H xs us Q I rv h
  obtain ⟨ρ, M, ds, r, dv, z, M', hf, hq⟩ := h
  unfold isiD at hf
  split at hf
  · split at hf
    · rename_i hT
      split at hf
      · rename_i a ha
        cases hf
        obtain ⟨v, u, rfl, d1, d2⟩ := dvs_two dv
        cases d2
        obtain ⟨t1, t2⟩ := tyName_ok r d1 ha
        exact call_isi pins s σ H _ us Q I rv ⟨v, _, _, _, _, rfl, .ty _, t1, kit_ty (kit_two hT t2), hq ρ H .refl r _ (.bl _)⟩
      · cases hf
    · cases hf
  · cases hf
/-- a built-in class by its name, as a value -/
theorem se_ty {x : Str} {T : String} (hg : Gl X x) (hm : X.mg x = none) (hv : bootBuiltins x = some (.type T)) (hn : x ≠ "__name__" := by decide) (hd : (x == ("__debug__" : Str)) = false := by decide) : SE X ct (.Name x pos) (fK (.ty T)) :=
  PE.imp (pe_bltn (v := .ty T) hg hm hv rfl hn hd) fun _ _ _ h => tE.const (fun _ _ => .ty T) h
/-! ### repr -/
def reprD : List Dv → Mem → Rz
  | [d], M => match d with
    | .int i => if i.natAbs.log2 < 1920 then some (.str (toString i), M) else none
    | .tup _ | .rol _ | .loc _ => match rd M deep d with
      | some p => if p.showable = true ∧ p.hasDict = false ∧ p.depth ≤ 60 ∧ p.shown.length ≤ sizeLine then some (.str p.shown, M) else none
      | none => none
    | _ => none
  | _, _ => none
theorem sc_repr (hg : X.A.guards = some []) (hu : X.A.units + 64 < cLine) : SC X ct (.builtin "repr") reprD := by
  intro pins s σ H xs us Q I rv h
  obtain ⟨ρ, M, ds, r, dv, z, M', hf, hq⟩ := h
  have deepen : ∀ {d : Dv} {v : V} {a : Addr}, DV X.K ρ H d v → v = .ref a → xs = [v] → (match rd M deep d with
      | some p => if p.showable = true ∧ p.hasDict = false ∧ p.depth ≤ 60 ∧ p.shown.length ≤ sizeLine then some (Dv.str p.shown, M) else none
      | none => none) = some (z, M') → wpAny (model X.prog X.w) X.A (call (.builtin "repr") us) (EP X pins σ Q) X.xe s := by
    intro d v a hd ev ex hf
    subst ex; subst ev
    split at hf
    · rename_i p hp
      split at hf
      · rename_i hs
        cases hf
        obtain ⟨u, rfl, ru⟩ := vals1 rv
        cases ru
        obtain ⟨as, hr⟩ := Dp.reads I _ _ _ (rd_dp r _ hd hp) rfl
        refine repr_of_reads' hr hs.1 (PyData.noDict_hsm hs.2.1) hg (by omega) (fun _ _ q => q) (fun h' t tk hk => ?_) hs.2.2.2
        exact ⟨V.str p.shown, H, I.kept (t' := tk) hk, ⟨_, rfl⟩, hq ρ H .refl r _ (.str _)⟩
      · cases hf
    · cases hf
  unfold reprD at hf
  split at hf
  · rename_i d _
    obtain ⟨v, ex, d1⟩ := dvs_one dv
    split at hf
    · split at hf
      · rename_i hl
        cases hf; cases d1; subst ex
        exact SkE.call_repr_int pins s σ H _ us Q I rv ⟨_, rfl, hl, hq ρ H .refl r _ (.str _)⟩
      · cases hf
    · have d2 := d1
      cases d1
      exact deepen d2 rfl ex hf
    · have d2 := d1
      cases d1
      exact deepen d2 rfl ex hf
    · have d2 := d1
      cases d1
      exact deepen d2 rfl ex hf
    · cases hf
  · cases hf
end
end Zl

/-! text Z6 -/
namespace Zl
open PySem L2 PySem.Spec PyProof.Rows

abbrev FM := Dv → List Dv → Mem → Rz
def tMt (K : Frg) (ct : Ct) (h : FM) : V → List V → Hp → VK → Prop := fun x xs H Q => ∃ ρ M d ds, Rl K ct ρ M H ∧ DV K ρ H d x ∧ DVs K ρ H ds xs ∧ ∃ z M', h d ds M = some (z, M') ∧ Aft K ct ρ H M' fun ρ' H' => ∀ v, DV K ρ' H' z v → Q v H'
abbrev SM (X : Cx) (ct : Ct) (id : String) (h : FM) : Prop := MtR X id (tMt X.K ct h)
/-- of which built-in type the receiver is -/
def isTy (T : String) (d : Dv) (M : Mem) : Bool :=
  match d with
  | .tup _ => T == "tuple"
  | .rol _ => T == "list"
  | .str _ => T == "str"
  | .loc n => match M[n]? with
    | some (.lst _) => T == "list"
    | _ => false
  | _ => false
section
variable {X : Cx} {ct : Ct} {e o : Expr} {es : List Expr} {apos cpos : Pos} {fo : FE} {fr : FA} {h : FM} {T id : String} {name : Str}
theorem isTy_ok {pins : List (Addr × Obj)} {σ : L2.St} {H : Hp} {s : Shared} {ρ : List Addr} {M : Mem} {d : Dv} {x : V} {v : Value} (I : Inv X pins σ H s) (r : Rl X.K ct ρ M H) (dx : DV X.K ρ H d x) (rx : RelV x v) (ht : isTy T d M = true) :
    s.TypeIs v T ∧ ∀ a, v = .ref a → ∃ ob, s.heap.get? a = some ob ∧ ob.dict = none := by
  unfold isTy at ht
  split at ht
  · have e : T = "tuple" := by simpa using ht
    subst e
    cases dx with
    | tup hs hd =>
      cases rx
      rcases hs with ⟨o, h1, h2⟩ | ⟨o, its, n, h1, h2, h3, h4⟩
      · obtain ⟨g, _, us, _, ob, g2, g3, _⟩ := I.hok _ _ h1
        rw [g] at g2; cases g2
        exact ⟨⟨o, g, g3⟩, fun a e => by cases e; exact ⟨o, g, h2⟩⟩
      · exact ⟨⟨o, I.kIn _ _ h1, h2⟩, fun a e => by cases e; exact ⟨o, I.kIn _ _ h1, h3⟩⟩
  · have e : T = "list" := by simpa using ht
    subst e
    cases dx with
    | rol hs hd => exact tyV_is I rx (.inl ⟨rfl, _, hs.sq⟩)
  · have e : T = "str" := by simpa using ht
    subst e
    cases dx
    exact tyV_is I rx (rfl : tyV X.K "str" (V.str _) H)
  · split at ht
    · rename_i hm
      have e : T = "list" := by simpa using ht
      subst e
      obtain ⟨a, vs, rfl, a1, a2, a3⟩ := r.lst hm dx
      exact tyV_is I rx (.inl ⟨rfl, _, SqL.of a2⟩)
    · exact absurd ht (by decide)
  · exact absurd ht (by decide)
/-- o.m(e, ..) of a built-in type -/
def fM (T : String) (h : FM) (fo : FE) (fr : FA) : FE := fun env M => bnd (fo env M) fun d M1 => if isTy T d M1 then bnd (fr env M1) fun ds M2 => h d ds M2 else none
theorem se_bm (pa : PlainAttrs T) (slot : Slot T name id) (hty : typeOf (.builtin id) = pure (.type "method_descriptor")) (hm : SM X ct id h) (ho : SE X ct o fo) (ha : SA X ct (e :: es) fr)
    (hbase : attributeBase o name X.env (eval o X.env) = eval o X.env := by rfl)
    (hfew : ((backTo cpos (starEach (e :: es) X.env)).all (fun x => !x.1) && (backToKw cpos (keywordEach [] X.env)).all (fun x => x.1.isSome)
      && decide ((e :: es).length + ([] : List Keyword).length + (if ([] : List Keyword).isEmpty then 0 else 1) < 30)) = true := by rfl)
    (hline : (apos.endLine == cpos.line) = true := by rfl)
    (hs : starEach (e :: es) X.env = (false, eval e X.env) :: starEach es X.env := by rfl)
    (hplain : (backTo cpos (starEach es X.env)).any (·.1) = false := by rfl) :
    SE X ct (.Call (.Attribute o name apos) (e :: es) [] cpos) (fM T h fo fr) := by
  refine ⟨fun pins s σ H Q I w => ?_⟩
  obtain ⟨ρ, M, env, r, he, d, M', hf, hq⟩ := w
  obtain ⟨x, M1, h1, hf⟩ := bnd_some hf
  split at hf
  · rename_i ht
    obtain ⟨ys, M2, h2, hf⟩ := bnd_some hf
    refine wpAny_Call_method_late hbase hfew hline rfl (thn (ho.run pins s σ H (fun v H1 => ∃ ρ1, Ext X.K ρ H ρ1 H1 ∧ Rl X.K ct ρ1 M1 H1 ∧ DV X.K ρ1 H1 x v) I ⟨ρ, M, env, r, he, x, M1, h1, fun ρ1 H1 e1 r1 v dv => ⟨ρ1, e1, r1, dv⟩⟩) fun v s1 hv => ?_)
    obtain ⟨y, H1, I1, ry, ρ1, e1, r1, dy⟩ := hv
    obtain ⟨t1, t2⟩ := isTy_ok I1 r1 dy ry ht
    refine ⟨T, id, pa, slot, hty, t1, t2, ?_⟩
    have hA := ha.run cpos pins s1 σ H1 (fun vs H2 => ∃ ρ2, Ext X.K ρ1 H1 ρ2 H2 ∧ Rl X.K ct ρ2 M2 H2 ∧ DVs X.K ρ2 H2 ys vs) I1 ⟨ρ1, M1, env, r1, he.mono e1, ys, M2, h2, fun ρ2 H2 e2 r2 vs dvs => ⟨ρ2, e2, r2, dvs⟩⟩
    rw [hs] at hA ⊢
    refine Calls.callWith_builtin (by show (false || (backTo cpos (starEach es X.env)).any fun z => z.1) = false; rw [hplain]; rfl) (Calls.evalArgs_plain (thn hA fun us s2 hus => ?_))
    obtain ⟨vs, H2, I2, rvs, ρ2, e2, r2, dvs⟩ := hus
    exact hm pins s2 σ H2 y vs v us Q I2 ry rvs ⟨ρ2, M2, x, ys, r2, dy.mono e2, dvs, d, M', hf, hq.later (e1.trans e2)⟩
  · cases hf
theorem se_bm0 (pa : PlainAttrs T) (slot : Slot T name id) (hty : typeOf (.builtin id) = pure (.type "method_descriptor")) (hm : SM X ct id h) (ho : SE X ct o fo)
    (hbase : attributeBase o name X.env (eval o X.env) = eval o X.env := by rfl) (hline : (apos.endLine == cpos.line) = true := by rfl) :
    SE X ct (.Call (.Attribute o name apos) [] [] cpos) (fM T h fo fNil) := by
  refine ⟨fun pins s σ H Q I w => ?_⟩
  obtain ⟨ρ, M, env, r, he, d, M', hf, hq⟩ := w
  obtain ⟨x, M1, h1, hf⟩ := bnd_some hf
  split at hf
  · rename_i ht
    obtain ⟨ys, M2, h2, hf⟩ := bnd_some hf
    cases h2
    refine wpAny_Call_method0_late hbase hline (thn (ho.run pins s σ H (fun v H1 => ∃ ρ1, Ext X.K ρ H ρ1 H1 ∧ Rl X.K ct ρ1 _ H1 ∧ DV X.K ρ1 H1 x v) I ⟨ρ, M, env, r, he, x, _, h1, fun ρ1 H1 e1 r1 v dv => ⟨ρ1, e1, r1, dv⟩⟩) fun v s1 hv => ?_)
    obtain ⟨y, H1, I1, ry, ρ1, e1, r1, dy⟩ := hv
    obtain ⟨t1, t2⟩ := isTy_ok I1 r1 dy ry ht
    refine ⟨T, id, pa, slot, hty, t1, t2, ?_⟩
    refine Calls.callWith_builtin rfl (PySem.evalArgs_none ?_)
    exact hm pins s1 σ H1 y [] v [] Q I1 ry .nil ⟨ρ1, _, x, [], r1, dy, .nil, d, M', hf, hq.later e1⟩
  · cases hf
/-! ### lists -/
def appendD : FM
  | .loc n, [x], M => match M[n]? with
    | some (.lst xs) => if xs.length < sizeLine then some (.non, M.set n (.lst (xs ++ [x]))) else none
    | _ => none
  | _, _, _ => none
theorem sm_append : SM X ct "list.append" appendD := by
  intro pins s σ H x xs v us Q I rx rxs w
  obtain ⟨ρ, M, d, ds, r, dx, dxs, z, M', hf, hq⟩ := w
  unfold appendD at hf
  split at hf
  · split at hf
    · rename_i hm
      split at hf
      · rename_i hl
        cases hf
        obtain ⟨a, vs, rfl, a1, a2, a3⟩ := r.lst hm dx
        obtain ⟨y, rfl, dy⟩ := dvs_one dxs
        obtain ⟨r2, e2⟩ := r.putL a1 (a3.append (.cons dy .nil))
        exact mt_append pins s σ H _ _ v us Q I rx rxs ⟨a, vs, y, rfl, rfl, a2, by rw [← a3.length]; exact hl, hq ρ _ e2 r2 _ .non⟩
      · cases hf
    · cases hf
  · cases hf
def extendD : FM
  | .loc n, [.loc m], M => match M[n]?, M[m]? with
    | some (.lst xs), some (.lst ys) => if xs.length + ys.length ≤ sizeLine then some (.non, M.set n (.lst (xs ++ ys))) else none
    | _, _ => none
  | _, _, _ => none
theorem sm_extend : SM X ct "list.extend" extendD := by
  intro pins s σ H x xs v us Q I rx rxs w
  obtain ⟨ρ, M, d, ds, r, dx, dxs, z, M', hf, hq⟩ := w
  unfold extendD at hf
  split at hf
  · split at hf
    · rename_i hm hm2
      split at hf
      · rename_i hl
        cases hf
        obtain ⟨a, vs, rfl, a1, a2, a3⟩ := r.lst hm dx
        obtain ⟨y, rfl, dy⟩ := dvs_one dxs
        obtain ⟨b, ws, rfl, b1, b2, b3⟩ := r.lst hm2 dy
        obtain ⟨r2, e2⟩ := r.putL a1 (a3.append b3)
        exact mt_extend pins s σ H _ _ v us Q I rx rxs ⟨a, b, vs, ws, rfl, rfl, a2, b2, by rw [← a3.length, ← b3.length]; exact hl, hq ρ _ e2 r2 _ .non⟩
      · cases hf
    · cases hf
  · cases hf
/-- pop(): the last one; pop(i) -/
def popD : FM
  | .loc n, [], M => match M[n]? with
    | some (.lst xs) => match xs[xs.length - 1]? with
      | some d => some (d, M.set n (.lst xs.dropLast))
      | none => none
    | _ => none
  | .loc n, [.int i], M => match M[n]? with
    | some (.lst xs) => if -(2 ^ 63) ≤ i ∧ i < 2 ^ 63 then match seqIndex? i xs.length with
        | some k => match xs[k]? with
          | some d => some (d, M.set n (.lst (xs.eraseIdx k)))
          | none => none
        | none => none
      else none
    | _ => none
  | _, _, _ => none
theorem DVs.dropLast {K : Frg} {ρ : List Addr} {H : Hp} {ds : List Dv} {vs : List V} (h : DVs K ρ H ds vs) : DVs K ρ H ds.dropLast vs.dropLast := by
  rw [List.dropLast_eq_take, List.dropLast_eq_take, h.length]
  exact h.take _
theorem DVs.eraseIdx {K : Frg} {ρ : List Addr} {H : Hp} : ∀ {ds : List Dv} {vs : List V} (i : Nat), DVs K ρ H ds vs → DVs K ρ H (ds.eraseIdx i) (vs.eraseIdx i)
  | _, _, _, .nil => .nil
  | _, _, 0, .cons _ t => t
  | _, _, i + 1, .cons r t => .cons r (DVs.eraseIdx i t)
theorem sm_pop : SM X ct "list.pop" popD := by
  intro pins s σ H x xs v us Q I rx rxs w
  obtain ⟨ρ, M, d, ds, r, dx, dxs, z, M', hf, hq⟩ := w
  unfold popD at hf
  split at hf
  · split at hf
    · rename_i hm
      split at hf
      · rename_i d0 hd
        cases hf
        obtain ⟨a, vs, rfl, a1, a2, a3⟩ := r.lst hm dx
        have := dvs_nil dxs; subst this
        obtain ⟨r2, e2⟩ := r.putL a1 a3.dropLast
        obtain ⟨w, h1, h2⟩ := a3.get hd
        rw [a3.length] at h1
        exact mt_pop pins s σ H _ _ v us Q I rx rxs ⟨a, vs, w, rfl, rfl, a2, h1, hq ρ _ e2 r2 _ (h2.mono e2)⟩
      · cases hf
    · cases hf
  · split at hf
    · rename_i hm
      split at hf
      · rename_i hb
        split at hf
        · rename_i k hk
          split at hf
          · rename_i d0 hd
            cases hf
            obtain ⟨a, vs, rfl, a1, a2, a3⟩ := r.lst hm dx
            obtain ⟨y, rfl, dy⟩ := dvs_one dxs
            cases dy
            obtain ⟨r2, e2⟩ := r.putL a1 (a3.eraseIdx k)
            obtain ⟨w, h1, h2⟩ := a3.get hd
            exact mt_popAt pins s σ H _ _ v us Q I rx rxs ⟨a, vs, _, k, w, rfl, rfl, a2, hb.1, hb.2, by rw [← a3.length]; exact hk, h1, hq ρ _ e2 r2 _ (h2.mono e2)⟩
          · cases hf
        · cases hf
      · cases hf
    · cases hf
  · cases hf
/-- index: the first equal one; flat values, or data of any depth in a list -/
def indexD : FM
  | .loc n, [x], M => match M[n]? with
    | some (.lst ys) => if flatD x && ys.all flatD then match idxB (fun y => eqF y x) ys with
        | some j => some (.int (j : Nat), M)
        | none => none
      else match rd M deep x, rdL (rd M deep) ys with
      | some p, some ps => if SeqAt.shaped p = true ∧ SeqAt.shaped (.list ps) = true then match ps.findIdx? fun z => PyData.eqv z p with
          | some j => some (.int (j : Nat), M)
          | none => none
        else none
      | _, _ => none
    | _ => none
  | _, _, _ => none
theorem sm_index (hu : X.A.units + 65 < cLine) : SM X ct "list.index" indexD := by
  intro pins s σ H x xs v us Q I rx rxs w
  obtain ⟨ρ, M, d, ds, r, dx, dxs, z, M', hf, hq⟩ := w
  unfold indexD at hf
  split at hf
  · split at hf
    · rename_i ys hm
      obtain ⟨a, vs, rfl, a1, a2, a3⟩ := r.lst hm dx
      obtain ⟨y, rfl, dy⟩ := dvs_one dxs
      split at hf
      · rename_i hl
        rw [Bool.and_eq_true] at hl
        split at hf
        · rename_i j hj
          cases hf
          obtain ⟨⟨w, h1, h2⟩, h3⟩ := idxB_some hj
          obtain ⟨u, h4, h5⟩ := a3.get h1
          have fl : ∀ {m : Nat} {c : Dv}, ys[m]? = some c → flatD c = true := fun {m c} hc => List.all_eq_true.mp hl.2 c (List.mem_of_getElem? hc)
          refine mt_index pins s σ H _ _ v us Q I rx rxs ⟨a, vs, y, j, u, rfl, rfl, SqL.of a2, by rw [flat_of dy]; exact hl.1, by rw [flats_of a3]; exact hl.2, h4, by rw [eq_of h5 dy (fl h1) hl.1]; exact h2, fun m w' hm' hw' => ?_, hq ρ H .refl r _ (.int _)⟩
          obtain ⟨c, c1, c2⟩ := a3.back hw'
          rw [eq_of c2 dy (fl c1) hl.1]
          exact h3 m c hm' c1
        · cases hf
      · split at hf
        · rename_i p ps hp hps
          split at hf
          · rename_i hs
            split at hf
            · rename_i j hj
              cases hf
              obtain ⟨h1, h2, h3⟩ := List.findIdx?_eq_some_iff_getElem.mp hj
              refine mt_indexD hu pins s σ H _ _ v us Q I rx rxs ⟨a, y, p, ps, j, ps[j], rfl, rfl, .lst (SqL.of a2) (rdL_dp (fun d v p h1 h2 => rd_dp r _ h1 h2) a3 hps), rd_dp r _ dy hp, hs.2, hs.1, List.getElem?_eq_getElem h1, h2, fun m w' hm' hw' => ?_, hq ρ H .refl r _ (.int _)⟩
              obtain ⟨g1, g2⟩ := List.getElem?_eq_some_iff.mp hw'
              subst g2
              have := h3 m hm'
              simpa using this
            · cases hf
          · cases hf
        · cases hf
    · cases hf
  · cases hf
/-! ### tuples: count, index of flat values -/
def tcountD : FM
  | .tup ys, [x], M => if flatD x && ys.all flatD then some (.int (ys.countP fun y => eqF y x : Nat), M) else none
  | _, _, _ => none
theorem count_eqU {K : Frg} {ρ : List Addr} {H : Hp} {x : Dv} {w : V} (hx : DV K ρ H x w) (fx : flatD x = true) : ∀ {ys : List Dv} {vs : List V} {us : List Value}, DVs K ρ H ys vs → Vals vs us → ys.all flatD = true → us.countP (eqU w) = ys.countP fun y => eqF y x
  | _, _, _, .nil, .nil, _ => rfl
  | _, _, _, .cons h t, .cons r rt, f => by
    rw [List.all_cons, Bool.and_eq_true] at f
    have e : eqU w _ = eqF _ x := (eqU_of r (by rw [flat_of h]; exact f.1)).trans (eq_of h hx f.1 fx)
    rw [List.countP_cons, List.countP_cons, count_eqU hx fx t rt f.2, e]
theorem sm_tcount : SM X ct "tuple.count" tcountD := by
  intro pins s σ H x xs v us Q I rx rxs w
  obtain ⟨ρ, M, d, ds, r, dx, dxs, z, M', hf, hq⟩ := w
  unfold tcountD at hf
  split at hf
  · split at hf
    · rename_i hl
      rw [Bool.and_eq_true] at hl
      cases hf
      obtain ⟨y, rfl, dy⟩ := dvs_one dxs
      obtain ⟨u, rfl, ru⟩ := vals1 rxs
      cases dx with
      | tup hs hd =>
        cases rx
        obtain ⟨ws, rw', ⟨⟨cls, dd, data, sl⟩, ho, hc, n, hd'⟩, hz⟩ := I.tuple hs.sq
        simp only at hc hd'
        subst hc hd'
        refine call_meets PySem.F.slot_tuple_count ⟨_, ho, rfl⟩ PySem.F.entry_tuple_count (PySem.F.args_tuple_count_2 _ _)
          (SeqAt.tuple_countAt _ ws.toArray n dd sl u (eqU y)) ⟨ho, fun c hc => mem_eqAt ru (by rw [flat_of dy]; exact hl.1) rw' (by rw [flats_of hd]; exact hl.2) c (by simpa using hc), ?_⟩
        refine ⟨V.int (ws.countP (eqU y) : Nat), H, I.tok _, ⟨s.toks, rfl⟩, ?_⟩
        rw [count_eqU dy hl.1 hd rw' hl.2]
        exact hq ρ H .refl r _ (.int _)
    · cases hf
  · cases hf
def tindexD : FM
  | .tup ys, [x], M => if flatD x && ys.all flatD then match idxB (fun y => eqF y x) ys with
      | some j => some (.int (j : Nat), M)
      | none => none
    else none
  | _, _, _ => none
theorem sm_tindex : SM X ct "tuple.index" tindexD := by
  intro pins s σ H x xs v us Q I rx rxs w
  obtain ⟨ρ, M, d, ds, r, dx, dxs, z, M', hf, hq⟩ := w
  unfold tindexD at hf
  split at hf
  · rename_i _ ys _
    split at hf
    · rename_i hl
      rw [Bool.and_eq_true] at hl
      split at hf
      · rename_i j hj
        cases hf
        obtain ⟨y, rfl, dy⟩ := dvs_one dxs
        obtain ⟨u, rfl, ru⟩ := vals1 rxs
        obtain ⟨⟨w, h1, h2⟩, h3⟩ := idxB_some hj
        have fl : ∀ {m : Nat} {c : Dv}, ys[m]? = some c → flatD c = true := fun {m c} hc => List.all_eq_true.mp hl.2 c (List.mem_of_getElem? hc)
        cases dx with
        | tup hs hd =>
          cases rx
          obtain ⟨ws, rw', ⟨⟨cls, dd, data, sl⟩, ho, hc, n, hd'⟩, hz⟩ := I.tuple hs.sq
          simp only at hc hd'
          subst hc hd'
          have at_ : ∀ {m : Nat} (hm : m < ws.toArray.size), ∃ c, ys[m]? = some c ∧ eqU y ws.toArray[m] = eqF c _ := fun {m} hm => by
            have hm1 : m < ws.length := by simpa using hm
            have hm2 : m < ys.length := by rw [hd.length, rw'.length]; exact hm1
            have e1 : ys[m]? = some ys[m] := List.getElem?_eq_getElem hm2
            obtain ⟨b, b1, b2⟩ := hd.get e1
            obtain ⟨c, c1, c2⟩ := rw'.get b1
            refine ⟨ys[m], e1, ?_⟩
            have e2 : ws.toArray[m] = c := by simpa using (List.getElem?_eq_some_iff.mp c1).2
            rw [e2]
            exact (eqU_of c2 (by rw [flat_of b2]; exact fl e1)).trans (eq_of b2 dy (fl e1) hl.1)
          have hj1 : j < ws.toArray.size := by
            have := (List.getElem?_eq_some_iff.mp h1).1
            rw [List.size_toArray, ← rw'.length, ← hd.length]; exact this
          refine call_meets PySem.F.slot_tuple_index ⟨_, ho, rfl⟩ PySem.F.entry_tuple_index (PySem.F.args_tuple_index_2 _ _)
            (TI.tuple_indexAt _ ws.toArray n dd sl u (eqU y) j hj1 ?_ ?_) ⟨ho, fun c hc => mem_eqAt ru (by rw [flat_of dy]; exact hl.1) rw' (by rw [flats_of hd]; exact hl.2) c (by simpa using hc), ?_⟩
          · obtain ⟨c, c1, c2⟩ := at_ hj1
            rw [h1] at c1; cases c1
            rw [c2]; exact h2
          · intro m hm hmj
            obtain ⟨c, c1, c2⟩ := at_ hm
            rw [c2]
            exact h3 m c hmj c1
          · exact ⟨V.int (j : Nat), H, I.tok _, ⟨_, rfl⟩, hq ρ H .refl r _ (.int _)⟩
      · cases hf
    · cases hf
  · cases hf
end
end Zl

/-! text Z7 -/
namespace Zl
open PySem L2 PySem.Spec PyProof.Rows

/-! ## Targets -/
/-- equal but for the slots ws -/
def OutEq (ws : List Nat) (σ σ' : L2.St) : Prop := σ'.length = σ.length ∧ ∀ i, i ∉ ws → σ'[i]? = σ[i]?
theorem OutEq.refl {ws : List Nat} {σ : L2.St} : OutEq ws σ σ := ⟨rfl, fun _ _ => rfl⟩
theorem OutEq.set {ws : List Nat} {σ : L2.St} {i : Nat} {v : Option V} (h : i ∈ ws) : OutEq ws σ (σ.set i v) := ⟨by simp, fun j hj => List.getElem?_set_ne fun e => hj (by rw [← e]; exact h)⟩
theorem OutEq.trans {ws : List Nat} {σ σ1 σ2 : L2.St} (a : OutEq ws σ σ1) (b : OutEq ws σ1 σ2) : OutEq ws σ σ2 := ⟨b.1.trans a.1, fun i hi => (b.2 i hi).trans (a.2 i hi)⟩
theorem OutEq.mono {ws us : List Nat} {σ σ' : L2.St} (a : OutEq ws σ σ') (h : ∀ i ∈ ws, i ∈ us) : OutEq us σ σ' := ⟨a.1, fun i hi => a.2 i fun z => hi (h i z)⟩

abbrev FG := Dv → En → Mem → Option (En × Mem)
abbrev FGs := List Dv → En → Mem → Option (En × Mem)
def tG (K : Frg) (ct : Ct) (ws : List Nat) (f : FG) : TG := fun v σ H Q => ∃ ρ M env d, Rl K ct ρ M H ∧ EnOk K ρ H env σ ∧ DV K ρ H d v ∧ ∃ env' M', f d env M = some (env', M') ∧ Aft K ct ρ H M' fun ρ' H' => ∀ σ', EnOk K ρ' H' env' σ' → OutEq ws σ σ' → Q σ' H'
def tGs (K : Frg) (ct : Ct) (ws : List Nat) (f : FGs) : TGs := fun vs σ H Q => ∃ ρ M env ds, Rl K ct ρ M H ∧ EnOk K ρ H env σ ∧ DVs K ρ H ds vs ∧ ∃ env' M', f ds env M = some (env', M') ∧ Aft K ct ρ H M' fun ρ' H' => ∀ σ', EnOk K ρ' H' env' σ' → OutEq ws σ σ' → Q σ' H'
abbrev SG (X : Cx) (ct : Ct) (ws : List Nat) (e : Expr) (f : FG) : Prop := PG X e (tG X.K ct ws f)
abbrev SGs (X : Cx) (ct : Ct) (ws : List Nat) (es : List Expr) (f : FGs) : Prop := PGs X es (tGs X.K ct ws f)
section
variable {X : Cx} {ct : Ct} {ws : List Nat} {e o i' : Expr} {es : List Expr} {pos : Pos} {f : FG} {g : FGs} {fo fi fa : FE}
theorem PG.imp {t t' : TG} (h : PG X e t) (k : ∀ v σ H Q, t' v σ H Q → t v σ H Q) : PG X e t' := ⟨fun pins s σ H v u Q I r w => h.run pins s σ H v u Q I r (k v σ H Q w)⟩
theorem PGs.imp {t t' : TGs} (h : PGs X es t) (k : ∀ v σ H Q, t' v σ H Q → t v σ H Q) : PGs X es t' := ⟨fun pins s σ H v u Q I r w => h.run pins s σ H v u Q I r (k v σ H Q w)⟩
def gN (i : Nat) : FG := fun d env M => some (env.set i (some d), M)
theorem sg_name {i : Nat} {x : Str} (hN : X.N.Nodup) (hi : X.N[i]? = some x) (hx : Loc X.env.scope x) (hw : i ∈ ws := by simp) (hf : X.fn x = true ∨ X.env.scope.names.lookup x = some .local := by first | exact .inl rfl | exact .inr rfl | assumption) : SG X ct ws (.Name x pos) (gN i) :=
  PG.imp (pg_name hN hi hx hf) fun v σ H Q ⟨ρ, M, env, d, r, he, dv, env', M', hf, hq⟩ => by
    cases hf
    exact hq ρ H .refl r _ (he.set i dv) (.set hw)
def gsNil : FGs := fun ds env M => match ds with
  | [] => some (env, M)
  | _ => none
def gsCons (f : FG) (g : FGs) : FGs := fun ds env M => match ds with
  | d :: r => bnd (f d env M) fun e1 M1 => g r e1 M1
  | [] => none
theorem sgs_nil : SGs X ct ws [] gsNil := PGs.imp pgs_nil fun v σ H Q ⟨ρ, M, env, ds, r, he, dv, env', M', hf, hq⟩ => by
  unfold gsNil at hf
  split at hf
  · cases hf
    exact ⟨dvs_nil dv, hq ρ H .refl r σ he .refl⟩
  · cases hf
theorem sgs_cons (h1 : SG X ct ws e f) (h2 : SGs X ct ws es g) (hs : (assignEach (e :: es) X.env).map (·.2) = assign e X.env :: (assignEach es X.env).map (·.2) := by rfl) : SGs X ct ws (e :: es) (gsCons f g) :=
  PGs.imp (pgs_cons h1 h2 hs) fun vs σ H Q ⟨ρ, M, env, ds, r, he, dv, env', M', hf, hq⟩ => by
    unfold gsCons at hf
    split at hf
    · obtain ⟨e1, M1, g1, hf⟩ := bnd_some hf
      cases dv with
      | cons d1 dr =>
        exact ⟨_, _, rfl, ρ, M, env, _, r, he, d1, e1, M1, g1, fun ρ1 H1 x1 r1 σ1 en1 oe1 => ⟨ρ1, M1, e1, _, r1, en1, dr.mono x1, env', M', hf, fun ρ2 H2 x2 r2 σ2 en2 oe2 => hq ρ2 H2 (x1.trans x2) r2 σ2 en2 (oe1.trans oe2)⟩⟩
    · cases hf
/-- (a, b, ..) = a tuple -/
def gT (n : Nat) (g : FGs) : FG := fun d env M => match d with
  | .tup xs => if xs.length = n then g xs env M else none
  | .pr xs => if xs.length = n then g xs env M else none
  | _ => none
theorem sg_tup {k n : Nat} (hc : X.calm = true) (h : SGs X ct ws es g) (hn : (assignEach es X.env).length = n := by rfl) (hst : (assignEach es X.env).findIdx? (·.1) = none := by rfl) : SG X ct ws (.Tuple es k pos) (gT n g) :=
  PG.imp (pg_tup hc h hn hst) fun v σ H Q ⟨ρ, M, env, d, r, he, dv, env', M', hf, hq⟩ => by
    unfold gT at hf
    split at hf
    · split at hf
      · rename_i hl
        cases dv with
        | tup hs hd => exact ⟨_, _, rfl, hs.sq, hd.length ▸ hl, ρ, M, env, _, r, he, hd, env', M', hf, hq⟩
      · cases hf
    · split at hf
      · rename_i hl
        cases dv with
        | pr hs hd => exact ⟨_, _, rfl, hs, hd.length ▸ hl, ρ, M, env, _, r, he, hd, env', M', hf, hq⟩
      · cases hf
    · cases hf
/-- (a, b, ..) = a list -/
def gL (n : Nat) (g : FGs) : FG := fun d env M => match d with
  | .loc m => match M[m]? with
    | some (.lst xs) => if xs.length = n then g xs env M else none
    | _ => none
  | _ => none
theorem sg_unl {k n : Nat} (hc : X.calm = true) (h : SGs X ct ws es g) (hn : (assignEach es X.env).length = n := by rfl) (hst : (assignEach es X.env).findIdx? (·.1) = none := by rfl) : SG X ct ws (.Tuple es k pos) (gL n g) :=
  PG.imp (pg_unl hc h hn hst) fun v σ H Q ⟨ρ, M, env, d, r, he, dv, env', M', hf, hq⟩ => by
    unfold gL at hf
    split at hf
    · split at hf
      · rename_i hm
        split at hf
        · rename_i hl
          obtain ⟨a, vs, rfl, a1, a2, a3⟩ := r.lst hm dv
          exact ⟨_, _, rfl, SqL.of a2, a3.length ▸ hl, ρ, M, env, _, r, he, a3, env', M', hf, hq⟩
        · cases hf
      · cases hf
    · cases hf
/-- o[i] = v of a list -/
def setD (o i v : Dv) (M : Mem) : Option Mem :=
  match o, i with
  | .loc n, .int k => match M[n]? with
    | some (.lst xs) => match ixN xs.length k with
      | some j => some (M.set n (.lst (xs.set j v)))
      | none => none
    | _ => none
  | _, _ => none
def gS (fo fi : FE) : FG := fun d env M => bnd (fo env M) fun o M1 => bnd (fi env M1) fun i M2 => match setD o i d M2 with
  | some M3 => some (env, M3)
  | none => none
theorem sg_sub (ho : SE X ct o fo) (hi : SE X ct i' fi)
    (ha : ∀ v, assign (.Subscript o i' pos) X.env v = (do
      let ov ← holding [v] (eval o X.env)
      let iv ← holding [v, ov] (eval i' X.env)
      standAt pos
      holding [v, ov, iv] (setItem ov iv v)
      release [v, ov, iv] []) := by intro _; rfl) : SG X ct ws (.Subscript o i' pos) (gS fo fi) :=
  PG.imp (pg_sub ho hi set_list ha) fun v σ H Q ⟨ρ, M, env, d, r, he, dv, env', M', hf, hq⟩ => by
    obtain ⟨x, M1, h1, hf⟩ := bnd_some hf
    obtain ⟨y, M2, h2, hf⟩ := bnd_some hf
    refine ⟨ρ, M, env, r, he, x, M1, h1, fun ρ1 H1 e1 r1 w dw => ⟨ρ1, M1, env, r1, he.mono e1, y, M2, h2, fun ρ2 H2 e2 r2 u du => ?_⟩⟩
    split at hf
    · rename_i M3 hs
      cases hf
      unfold setD at hs
      split at hs
      · split at hs
        · rename_i hm
          split at hs
          · rename_i j hj
            cases hs
            obtain ⟨a, vs, rfl, a1, a2, a3⟩ := r2.lst hm (dw.mono e2)
            cases du
            obtain ⟨r3, e3⟩ := r2.putL a1 (a3.set ((dv.mono e1).mono e2) j)
            exact ⟨a, vs, _, j, rfl, rfl, a2, by rw [← a3.length]; exact hj, hq ρ2 _ ((e1.trans e2).trans e3) r3 σ (((he.mono e1).mono e2).mono e3) .refl⟩
          · cases hs
        · cases hs
      · cases hs
    · cases hf
end

/-! ## Statements -/
inductive Fl where
  | nx (env : En)
  | rt (d : Dv)
  | bk (env : En)
  | ct (env : En)
abbrev FS := En → Mem → Option (Fl × Mem)
def endF (K : Frg) (D : Ends) (fl : Fl) (ρ : List Addr) (H : Hp) : Prop :=
  match fl with
  | .nx env => ∀ σ, EnOk K ρ H env σ → D.nx σ H
  | .rt d => ∀ v, DV K ρ H d v → D.rt v H
  | .bk env => ∀ σ, EnOk K ρ H env σ → D.bk σ H
  | .ct env => ∀ σ, EnOk K ρ H env σ → D.ct σ H
def tS (K : Frg) (ct : Ct) (f : FS) : TS := fun D σ H => ∃ ρ M env, Rl K ct ρ M H ∧ EnOk K ρ H env σ ∧ ∃ fl M', f env M = some (fl, M') ∧ Aft K ct ρ H M' fun ρ' H' => endF K D fl ρ' H'
abbrev SS (X : Cx) (ct : Ct) (st : Stmt) (f : FS) : Prop := PS X st (tS X.K ct f)
abbrev SSs (X : Cx) (ct : Ct) (st : List Stmt) (f : FS) : Prop := PSs X st (tS X.K ct f)
section
variable {X : Cx} {ct : Ct} {st : Stmt} {rest body orelse : List Stmt} {e c o v' tg : Expr} {pos tpos : Pos} {f g : FS} {fe fo fv : FE} {ft : FT} {ws : List Nat}
theorem PS.imp {t t' : TS} (h : PS X st t) (k : ∀ D σ H, t' D σ H → t D σ H) : PS X st t' := ⟨fun pins s σ H D I w => h.run pins s σ H D I (k D σ H w)⟩
theorem PSs.imp {t t' : TS} (h : PSs X rest t) (k : ∀ D σ H, t' D σ H → t D σ H) : PSs X rest t' := ⟨fun pins s σ H D I w => h.run pins s σ H D I (k D σ H w)⟩
def fEnd : FS := fun env M => some (.nx env, M)
def fSeq (f g : FS) : FS := fun env M => bnd (f env M) fun fl M1 => match fl with
  | .nx e1 => g e1 M1
  | .rt d => some (.rt d, M1)
  | .bk e1 => some (.bk e1, M1)
  | .ct e1 => some (.ct e1, M1)
theorem ss_nil : SSs X ct [] fEnd := PSs.imp pss_nil fun D σ H ⟨ρ, M, env, r, he, fl, M', hf, hq⟩ => by
  cases hf
  exact hq ρ H .refl r σ he
theorem ss_cons (h1 : SS X ct st f) (h2 : SSs X ct rest g) : SSs X ct (st :: rest) (fSeq f g) :=
  PSs.imp (pss_cons h1 h2) fun D σ H ⟨ρ, M, env, r, he, fl, M', hf, hq⟩ => by
    obtain ⟨f1, M1, h1, hf⟩ := bnd_some hf
    refine ⟨ρ, M, env, r, he, f1, M1, h1, fun ρ1 H1 e1 r1 => ?_⟩
    cases f1 with
    | nx e2 => exact fun σ1 en1 => ⟨ρ1, M1, e2, r1, en1, fl, M', hf, hq.later e1⟩
    | rt d => cases hf; exact hq ρ1 H1 e1 r1
    | bk e2 => cases hf; exact hq ρ1 H1 e1 r1
    | ct e2 => cases hf; exact hq ρ1 H1 e1 r1
theorem ss_one (h1 : SS X ct st f) : SSs X ct [st] f := pss_one h1
theorem ss_pass : SS X ct (.Pass pos) fEnd := PS.imp ps_pass fun D σ H ⟨ρ, M, env, r, he, fl, M', hf, hq⟩ => by
  cases hf
  exact hq ρ H .refl r σ he
def fBrk : FS := fun env M => some (.bk env, M)
def fCnt : FS := fun env M => some (.ct env, M)
theorem ss_break : SS X ct (.Break pos) fBrk := PS.imp ps_break fun D σ H ⟨ρ, M, env, r, he, fl, M', hf, hq⟩ => by
  cases hf
  exact hq ρ H .refl r σ he
theorem ss_continue : SS X ct (.Continue pos) fCnt := PS.imp ps_continue fun D σ H ⟨ρ, M, env, r, he, fl, M', hf, hq⟩ => by
  cases hf
  exact hq ρ H .refl r σ he
/-- code that no run served here comes to -/
def fNo : FS := fun _ _ => none
theorem ss_never : SS X ct st fNo := PS.imp ps_never fun D σ H ⟨_, _, _, _, _, _, _, hf, _⟩ => by cases hf
theorem sss_never : SSs X ct rest fNo := PSs.imp pss_never fun D σ H ⟨_, _, _, _, _, _, _, hf, _⟩ => by cases hf
def fDrop (f : FE) : FS := fun env M => bnd (f env M) fun _ M1 => some (.nx env, M1)
theorem ss_expr (h : SE X ct e fe) (hs : swapsWith e none pos.line X.env = pure false := by rfl) : SS X ct (.Expr e pos) (fDrop fe) :=
  PS.imp (ps_expr h hs) fun D σ H ⟨ρ, M, env, r, he, fl, M', hf, hq⟩ => by
    obtain ⟨x, M1, h1, hf⟩ := bnd_some hf
    cases hf
    exact ⟨ρ, M, env, r, he, x, _, h1, fun ρ1 H1 e1 r1 v dv => hq ρ1 H1 e1 r1 σ (he.mono e1)⟩
def fRet (f : FE) : FS := fun env M => bnd (f env M) fun d M1 => some (.rt d, M1)
theorem ss_ret (h : SE X ct e fe) : SS X ct (.Return (some e) pos) (fRet fe) :=
  PS.imp (ps_ret h) fun D σ H ⟨ρ, M, env, r, he, fl, M', hf, hq⟩ => by
    obtain ⟨x, M1, h1, hf⟩ := bnd_some hf
    cases hf
    exact ⟨ρ, M, env, r, he, x, _, h1, fun ρ1 H1 e1 r1 v dv => hq ρ1 H1 e1 r1 v dv⟩
def fRetN : FS := fun _ M => some (.rt .non, M)
theorem ss_retN : SS X ct (.Return none pos) fRetN :=
  PS.imp ps_retN fun D σ H ⟨ρ, M, env, r, he, fl, M', hf, hq⟩ => by
    cases hf
    exact hq ρ H .refl r _ .non
def fIfS (c : FT) (f g : FS) : FS := fun env M => bnd (c env M) fun b M1 => if b then f env M1 else g env M1
theorem ss_if (hc : ST X ct c ft) (h1 : SSs X ct body f) (h2 : SSs X ct orelse g) : SS X ct (.If c body orelse pos) (fIfS ft f g) :=
  PS.imp (ps_if hc h1 h2) fun D σ H ⟨ρ, M, env, r, he, fl, M', hf, hq⟩ => by
    obtain ⟨b, M1, h1, hf⟩ := bnd_some hf
    refine ⟨ρ, M, env, r, he, b, M1, h1, fun ρ1 H1 e1 r1 => ?_⟩
    cases b with
    | true =>
      rw [if_pos rfl]
      exact ⟨ρ1, M1, env, r1, he.mono e1, fl, M', hf, hq.later e1⟩
    | false =>
      rw [if_neg (by decide)]
      exact ⟨ρ1, M1, env, r1, he.mono e1, fl, M', hf, hq.later e1⟩
/-- name = e -/
def fSet (i : Nat) (f : FE) : FS := fun env M => bnd (f env M) fun d M1 => some (.nx (env.set i (some d)), M1)
theorem ss_set {i : Nat} {x : Str} {pos' : Pos} (hN : X.N.Nodup) (hi : X.N[i]? = some x) (hx : Loc X.env.scope x) (h : SE X ct e fe) (hs : swapsWith e (some (.Name x pos')) pos.line X.env = pure false := by rfl) (hf : X.fn x = true ∨ X.env.scope.names.lookup x = some .local := by first | exact .inl rfl | exact .inr rfl | assumption) :
    SS X ct (.Assign [.Name x pos'] e pos) (fSet i fe) :=
  PS.imp (ps_set hN hi hx h hs hf) fun D σ H ⟨ρ, M, env, r, he, fl, M', hf, hq⟩ => by
    obtain ⟨d, M1, h1, hf⟩ := bnd_some hf
    cases hf
    exact ⟨ρ, M, env, r, he, d, _, h1, fun ρ1 H1 e1 r1 v dv => hq ρ1 H1 e1 r1 _ ((he.mono e1).set i dv)⟩
/-- target = e -/
def fAsg (f : FE) (g : FG) : FS := fun env M => bnd (f env M) fun d M1 => bnd (g d env M1) fun e1 M2 => some (.nx e1, M2)
theorem ss_asg {gg : FG} (h : SE X ct e fe) (hg : SG X ct ws tg gg) (hs : swapsWithSole [tg] e pos.line X.env = pure false := by rfl) (hw : swappedStores [tg] e X.env = pure none := by rfl)
    (h1 : (assignEach [tg] X.env).map (·.2) = [assign tg X.env] := by rfl) : SS X ct (.Assign [tg] e pos) (fAsg fe gg) :=
  PS.imp (ps_asg h hg hs hw h1) fun D σ H ⟨ρ, M, env, r, he, fl, M', hf, hq⟩ => by
    obtain ⟨d, M1, h1, hf⟩ := bnd_some hf
    obtain ⟨e2, M2, h2, hf⟩ := bnd_some hf
    cases hf
    exact ⟨ρ, M, env, r, he, d, M1, h1, fun ρ1 H1 e1 r1 v dv => ⟨ρ1, M1, env, d, r1, he.mono e1, dv, e2, _, h2, fun ρ2 H2 x2 r2 σ2 en2 _ => hq ρ2 H2 (e1.trans x2) r2 σ2 en2⟩⟩
/-- a, b = x, y: plain local names -/
def fPar (is : List Nat) (f : FA) : FS := fun env M => bnd (f env M) fun ds M1 => if ds.length = is.length then some (.nx ((is.zip ds).foldl (fun e p => e.set p.1 (some p.2)) env), M1) else none
theorem ss_par {i j : Nat} {x y : Str} {a b : Expr} {fr : FA} {px py pt : Pos} {kt k2 pt2} (hc : X.calm = true) (hN : X.N.Nodup) (hi : X.N[i]? = some x) (hj : X.N[j]? = some y) (hij : i ≠ j)
    (hx : X.env.scope.names.lookup x = some .local) (hy : X.env.scope.names.lookup y = some .local) (ha : SA X ct [a, b] fr)
    (hw : swappedStores [.Tuple [.Name x px, .Name y py] kt pt] (.Tuple [a, b] k2 pt2) X.env = pure (some [x, y]))
    (hs : swapsWithSole [.Tuple [.Name x px, .Name y py] kt pt] (.Tuple [a, b] k2 pt2) pos.line X.env = pure false := by rfl) :
    SS X ct (.Assign [.Tuple [.Name x px, .Name y py] kt pt] (.Tuple [a, b] k2 pt2) pos) (fPar [i, j] fr) :=
  PS.imp (ps_par hc hN hi hj hij hx hy ha hw hs) fun D σ H ⟨ρ, M, env, r, he, fl, M', hf, hq⟩ => by
    obtain ⟨ds, M1, h1, hf⟩ := bnd_some hf
    split at hf
    · rename_i hl
      cases hf
      refine ⟨ρ, M, env, r, he, ds, _, h1, fun ρ1 H1 e1 r1 vs dvs => ?_⟩
      match ds, hl, dvs with
      | [d1, d2], _, dvs =>
        obtain ⟨u, w, rfl, q1, q2⟩ := dvs_two dvs
        exact ⟨u, w, rfl, hq ρ1 H1 e1 r1 _ (((he.mono e1).set i q1).set j q2)⟩
    · cases hf
theorem ss_par3 {i j l : Nat} {x y z : Str} {a b c : Expr} {fr : FA} {px py pz pt : Pos} {kt k2 pt2} (hc : X.calm = true) (hN : X.N.Nodup) (hi : X.N[i]? = some x) (hj : X.N[j]? = some y) (hl : X.N[l]? = some z) (hij : i ≠ j) (hil : i ≠ l) (hjl : j ≠ l)
    (hx : X.env.scope.names.lookup x = some .local) (hy : X.env.scope.names.lookup y = some .local) (hz : X.env.scope.names.lookup z = some .local) (ha : SA X ct [a, b, c] fr)
    (hw : swappedStores [.Tuple [.Name x px, .Name y py, .Name z pz] kt pt] (.Tuple [a, b, c] k2 pt2) X.env = pure (some [x, y, z]))
    (hs : swapsWithSole [.Tuple [.Name x px, .Name y py, .Name z pz] kt pt] (.Tuple [a, b, c] k2 pt2) pos.line X.env = pure false := by rfl) :
    SS X ct (.Assign [.Tuple [.Name x px, .Name y py, .Name z pz] kt pt] (.Tuple [a, b, c] k2 pt2) pos) (fPar [i, j, l] fr) :=
  PS.imp (ps_par3 hc hN hi hj hl hij hil hjl hx hy hz ha hw hs) fun D σ H ⟨ρ, M, env, r, he, fl, M', hf, hq⟩ => by
    obtain ⟨ds, M1, h1, hf⟩ := bnd_some hf
    split at hf
    · rename_i hl
      cases hf
      refine ⟨ρ, M, env, r, he, ds, _, h1, fun ρ1 H1 e1 r1 vs dvs => ?_⟩
      match ds, hl, dvs with
      | [d1, d2, d3], _, dvs =>
        cases dvs with
        | cons q1 qs =>
          obtain ⟨u, w, rfl, q2, q3⟩ := dvs_two qs
          exact ⟨_, u, w, rfl, hq ρ1 H1 e1 r1 _ ((((he.mono e1).set i q1).set j q2).set l q3)⟩
    · cases hf
/-- name op= e of ints -/
def fAug (i : Nat) (h : Int → Int → Int) (f : FE) : FS := fun env M => match env[i]? with
  | some (some (.int a)) => bnd (f env M) fun d M1 => match d with
    | .int b => some (.nx (env.set i (some (.int (h a b)))), M1)
    | _ => none
  | _ => none
theorem ss_aug {i : Nat} {x : Str} {op : Operator} {h : Int → Int → Int} {pos' : Pos} (hN : X.N.Nodup) (hi : X.N[i]? = some x) (hx : Loc X.env.scope x) (he : SE X ct e fe) (ho : PIp X op (ipI h)) (hf : X.fn x = true ∨ X.env.scope.names.lookup x = some .local := by first | exact .inl rfl | exact .inr rfl | assumption) :
    SS X ct (.AugAssign (.Name x pos') op e pos) (fAug i h fe) :=
  PS.imp (ps_aug hN hi hx he ho hf) fun D σ H ⟨ρ, M, env, r, hen, fl, M', hf, hq⟩ => by
    unfold fAug at hf
    split at hf
    · rename_i a ha
      obtain ⟨d, M1, h1, hf⟩ := bnd_some hf
      split at hf
      · rename_i b
        cases hf
        obtain ⟨v, v1, v2⟩ := hen.2 i _ ha
        cases v2
        refine ⟨_, v1, ρ, M, env, r, hen, _, _, h1, fun ρ1 H1 e1 r1 w dw => ?_⟩
        cases dw
        exact ⟨_, _, rfl, rfl, hq ρ1 H1 e1 r1 _ ((hen.mono e1).set i (.int _))⟩
      · cases hf
    · cases hf

/-! ## while -/
def whileF (c : FT) (body : FS) : Nat → FS
  | 0 => fun _ _ => none
  | k + 1 => fun env M => bnd (c env M) fun b M1 => if b then bnd (body env M1) fun fl M2 => match fl with
      | .nx e1 => whileF c body k e1 M2
      | .ct e1 => whileF c body k e1 M2
      | .bk e1 => some (.nx e1, M2)
      | .rt d => some (.rt d, M2)
    else some (.nx env, M1)
theorem ss_while (k : Nat) (hp : PassesOwn (model X.prog X.w) X.A X.env X.xe) (hc : ST X ct c ft) (hb : SSs X ct body f) : SS X ct (.While c body [] pos) (whileF ft f k) := by
  refine PS.imp (ps_while hp hc hb) fun D σ H w => ?_
  refine ⟨fun m σ H => ∃ ρ M env, Rl X.K ct ρ M H ∧ EnOk X.K ρ H env σ ∧ ∃ fl M', whileF ft f m env M = some (fl, M') ∧ Aft X.K ct ρ H M' fun ρ' H' => endF X.K D fl ρ' H', ⟨k, w⟩, ?_⟩
  intro m σ H w
  obtain ⟨ρ, M, env, r, he, fl, M', hf, hq⟩ := w
  cases m with
  | zero => cases hf
  | succ m =>
    obtain ⟨b, M1, h1, hf⟩ := bnd_some hf
    refine ⟨ρ, M, env, r, he, b, M1, h1, fun ρ1 H1 e1 r1 => ?_⟩
    cases b with
    | false =>
      rw [if_neg (by decide)]
      cases hf
      exact hq ρ1 H1 e1 r1 σ (he.mono e1)
    | true =>
      rw [if_pos rfl]
      rw [if_pos rfl] at hf
      obtain ⟨f1, M2, h2, hf⟩ := bnd_some hf
      refine ⟨fun σ' H' => ∃ ρ M env, Rl X.K ct ρ M H' ∧ EnOk X.K ρ H' env σ' ∧ ∃ fl M', whileF ft f m env M = some (fl, M') ∧ Aft X.K ct ρ H' M' fun ρ' H' => endF X.K D fl ρ' H', fun σ' H' n => ⟨m, Nat.lt_succ_self m, n⟩, ?_⟩
      refine ⟨ρ1, M1, env, r1, he.mono e1, f1, M2, h2, fun ρ2 H2 e2 r2 => ?_⟩
      cases f1 with
      | nx e3 => exact fun σ2 en2 => ⟨ρ2, M2, e3, r2, en2, fl, M', hf, hq.later (e1.trans e2)⟩
      | ct e3 => exact fun σ2 en2 => ⟨ρ2, M2, e3, r2, en2, fl, M', hf, hq.later (e1.trans e2)⟩
      | bk e3 => cases hf; exact fun σ2 en2 => hq ρ2 H2 (e1.trans e2) r2 σ2 en2
      | rt d => cases hf; exact hq ρ2 H2 (e1.trans e2) r2
end
end Zl

/-! text Z8 -/
namespace Zl
open PySem L2 PySem.Spec PyProof.Rows

/-! ## What is walked -/
/-- at turn i: the item, or the end -/
abbrev Stp := Nat → Mem → Option (Option Dv)
structure Src where
  many : Nat
  stp : Stp
def Feeds (K : Frg) (ct : Ct) (ρ0 : List Addr) (H0 : Hp) (J : It) (it : Stp) : Prop := ∀ i ρ M H, Ext K ρ0 H0 ρ H → Rl K ct ρ M H →
  match it i M with
  | some (some d) => J.go i H ∧ ∀ x H', J.yld i H x H' → Ext K ρ H ρ H' ∧ Rl K ct ρ M H' ∧ DV K ρ H' d x
  | some none => J.stop i H
  | none => True
abbrev FI := En → Mem → Option (Src × Mem)
def tI (K : Frg) (ct : Ct) (f : FI) : TI := fun σ H R => ∃ ρ M env, Rl K ct ρ M H ∧ EnOk K ρ H env σ ∧ ∃ src M', f env M = some (src, M') ∧ Aft K ct ρ H M' fun ρ' H' => ∀ J, Feeds K ct ρ' H' J src.stp → R J H'
abbrev SI (X : Cx) (ct : Ct) (tg iter : Expr) (f : FI) : Prop := PI X tg iter (tI X.K ct f)
section
variable {X : Cx} {ct : Ct} {tg iter e a b : Expr} {pos p : Pos} {fe fa fb : FE} {fi : FI} {fr : FA}
theorem PI.imp {t t' : TI} (h : PI X tg iter t) (k : ∀ σ H R, t' σ H R → t σ H R) : PI X tg iter t' := ⟨fun pins s σ H R I w => h.run pins s σ H R I (k σ H R w)⟩
theorem PI.or {t t' : TI} (h : PI X tg iter t) (h' : PI X tg iter t') : PI X tg iter (fun σ H R => t σ H R ∨ t' σ H R) :=
  ⟨fun pins s σ H R I w => w.elim (h.run pins s σ H R I) (h'.run pins s σ H R I)⟩
/-- a tuple, a list, a text -/
def srcOf (M : Mem) : Dv → Option Src
  | .tup xs => some ⟨xs.length, fun i _ => some xs[i]?⟩
  | .rol xs => some ⟨xs.length, fun i _ => some xs[i]?⟩
  | .loc n => match M[n]? with
    | some (.lst xs) => some ⟨xs.length, fun i M => match M[n]? with
      | some (.lst xs) => some xs[i]?
      | _ => none⟩
    | _ => none
  | .str x => some ⟨x.cps.size, fun i _ => some (x.cps[i]?.map fun c => .str ⟨#[c]⟩)⟩
  | _ => none
def fSrc (f : FE) : FI := fun env M => bnd (f env M) fun d M1 => match srcOf M1 d with
  | some s => some (s, M1)
  | none => none
theorem feeds_tup {K : Frg} {ρ0 : List Addr} {H0 : Hp} {a : Addr} {xs : List Dv} {vs : List V} (hs : TupD K H0 a vs) (hd : DVs K ρ0 H0 xs vs) : Feeds K ct ρ0 H0 (Itt K a) (fun i _ => some xs[i]?) := by
  intro i ρ M H x r
  dsimp only
  cases q : xs[i]? with
  | none => exact ⟨vs, (hs.mono x).sq, by rw [← hd.length]; exact List.getElem?_eq_none_iff.mp q⟩
  | some d =>
    obtain ⟨v, h1, h2⟩ := hd.get q
    refine ⟨⟨vs, v, (hs.mono x).sq, h1⟩, fun y H' hy => ?_⟩
    obtain ⟨e, hy⟩ := hy
    subst e
    have := hy vs (hs.mono x).sq
    rw [h1] at this; cases this
    exact ⟨.refl, r, h2.mono x⟩
theorem feeds_rol {K : Frg} {ρ0 : List Addr} {H0 : Hp} {a : Addr} {xs : List Dv} {vs : List V} (hs : SqF K H0 a vs) (hd : DVs K ρ0 H0 xs vs) : Feeds K ct ρ0 H0 (Itl K a) (fun i _ => some xs[i]?) := by
  intro i ρ M H x r
  dsimp only
  cases q : xs[i]? with
  | none => exact ⟨vs, (hs.mono x).sq, by rw [← hd.length]; exact List.getElem?_eq_none_iff.mp q⟩
  | some d =>
    obtain ⟨v, h1, h2⟩ := hd.get q
    refine ⟨⟨vs, v, (hs.mono x).sq, h1⟩, fun y H' hy => ?_⟩
    obtain ⟨e, hy⟩ := hy
    subst e
    have := hy vs (hs.mono x).sq
    rw [h1] at this; cases this
    exact ⟨.refl, r, h2.mono x⟩
theorem feeds_lst {K : Frg} {ρ0 : List Addr} {H0 : Hp} {a : Addr} {n : Nat} (hn : ρ0[n]? = some a) : Feeds K ct ρ0 H0 (Itl K a) (fun i M => match M[n]? with
      | some (.lst xs) => some xs[i]?
      | _ => none) := by
  intro i ρ M H x r
  dsimp only
  split
  · rename_i d hd
    split at hd
    · rename_i xs hm
      obtain ⟨b, vs, eb, b1, b2, b3⟩ := r.lst hm (.loc (x.pre n a hn))
      cases eb
      have q : xs[i]? = some d := by simpa using hd
      obtain ⟨v, h1, h2⟩ := b3.get q
      refine ⟨⟨vs, v, SqL.of b2, h1⟩, fun y H' hy => ?_⟩
      obtain ⟨e, hy⟩ := hy
      subst e
      have := hy vs (SqL.of b2)
      rw [h1] at this; cases this
      exact ⟨.refl, r, h2⟩
    · cases hd
  · rename_i hd
    split at hd
    · rename_i xs hm
      obtain ⟨b, vs, eb, b1, b2, b3⟩ := r.lst hm (.loc (x.pre n a hn))
      cases eb
      have q : xs[i]? = none := by simpa using hd
      exact ⟨vs, SqL.of b2, by rw [← b3.length]; exact List.getElem?_eq_none_iff.mp q⟩
    · cases hd
  · trivial
theorem feeds_str {K : Frg} {ρ0 : List Addr} {H0 : Hp} {x : Str} : Feeds K ct ρ0 H0 (Its x) (fun i _ => some (x.cps[i]?.map fun c => .str ⟨#[c]⟩)) := by
  intro i ρ M H _ r
  dsimp only
  cases q : x.cps[i]? with
  | none => exact Array.getElem?_eq_none_iff.mp q
  | some c =>
    refine ⟨(Array.getElem?_eq_some_iff.mp q).1, fun y H' hy => ?_⟩
    obtain ⟨e, c', hc', ey⟩ := hy
    subst e; subst ey
    rw [q] at hc'; cases hc'
    exact ⟨.refl, r, .str _⟩
theorem si_seq (h : SE X ct e fe) : SI X ct tg e (fSrc fe) := by
  refine PI.imp (PI.or (PI.or (pi_list h) (pi_tup h)) (pi_str h)) fun σ H R ⟨ρ, M, env, r, he, src, M', hf, hq⟩ => ?_
  obtain ⟨d, M1, h1, hf⟩ := bnd_some hf
  split at hf
  · rename_i s0 hs
    cases hf
    unfold srcOf at hs
    split at hs
    · cases hs
      exact .inl (.inr ⟨ρ, M, env, r, he, _, _, h1, fun ρ1 H1 e1 r1 v dv => by
        cases dv with
        | tup hs hd => exact ⟨_, rfl, ⟨_, hs.sq⟩, hq ρ1 H1 e1 r1 _ (feeds_tup hs hd)⟩⟩)
    · cases hs
      exact .inl (.inl ⟨ρ, M, env, r, he, _, _, h1, fun ρ1 H1 e1 r1 v dv => by
        cases dv with
        | rol hs hd => exact ⟨_, rfl, ⟨_, hs.sq⟩, hq ρ1 H1 e1 r1 _ (feeds_rol hs hd)⟩⟩)
    · split at hs
      · rename_i hm
        cases hs
        exact .inl (.inl ⟨ρ, M, env, r, he, _, _, h1, fun ρ1 H1 e1 r1 v dv => by
          obtain ⟨a, vs, rfl, a1, a2, a3⟩ := r1.lst hm dv
          exact ⟨_, rfl, ⟨_, SqL.of a2⟩, hq ρ1 H1 e1 r1 _ (feeds_lst a1)⟩⟩)
      · cases hs
    · cases hs
      exact .inr ⟨ρ, M, env, r, he, _, _, h1, fun ρ1 H1 e1 r1 v dv => by
        cases dv
        exact ⟨_, rfl, hq ρ1 H1 e1 r1 _ feeds_str⟩⟩
    · cases hs
  · cases hf
/-- range(n), range(a, b) -/
def srcR (lo : Int) (n : Nat) : Src := ⟨n, fun i _ => if i < n then some (some (.int (lo + i))) else some none⟩
theorem feeds_rng {K : Frg} {ρ0 : List Addr} {H0 : Hp} {lo : Int} {n : Nat} : Feeds K ct ρ0 H0 (Itr lo n) (srcR lo n).stp := by
  intro i ρ M H _ r
  show (match (if i < n then some (some (Dv.int (lo + i))) else some none) with | some (some d) => _ | some none => _ | none => _)
  by_cases hi : i < n
  · rw [if_pos hi]
    refine ⟨hi, fun y H' hy => ?_⟩
    obtain ⟨e, ey⟩ := hy
    subst e; subst ey
    exact ⟨.refl, r, .int _⟩
  · rw [if_neg hi]
    exact Nat.le_of_not_lt hi
def fRng1 (f : FE) : FI := fun env M => bnd (f env M) fun d M1 => match d with
  | .int j => if -(2 ^ 62) ≤ j ∧ j < 2 ^ 62 then some (srcR 0 j.toNat, M1) else none
  | _ => none
def fRng2 (f g : FE) : FI := fun env M => bnd (f env M) fun d M1 => bnd (g env M1) fun d2 M2 => match d, d2 with
  | .int i, .int j => if -(2 ^ 62) ≤ i ∧ i < 2 ^ 62 ∧ -(2 ^ 62) ≤ j ∧ j < 2 ^ 62 then some (srcR i (j - i).toNat, M2) else none
  | _, _ => none
theorem si_range1 (hg : Gl X "range") (hm : X.mg "range" = none) (ha : SE X ct a fa) (hs : starEach [a] X.env = [(false, eval a X.env)] := by rfl) : SI X ct tg (.Call (.Name "range" p) [a] [] pos) (fRng1 fa) :=
  PI.imp (pi_range1 hg hm (sa_cons ha sa_nil hs) hs) fun σ H R ⟨ρ, M, env, r, he, src, M', hf, hq⟩ => by
    obtain ⟨d, M1, h1, hf⟩ := bnd_some hf
    refine ⟨ρ, M, env, r, he, [d], M1, by show bnd (fa env M) _ = _; rw [h1]; rfl, fun ρ1 H1 e1 r1 vs dvs => ?_⟩
    split at hf
    · split at hf
      · rename_i hb
        cases hf
        obtain ⟨v, rfl, d1⟩ := dvs_one dvs
        cases d1
        exact ⟨_, rfl, hb.1, hb.2, hq ρ1 H1 e1 r1 _ feeds_rng⟩
      · cases hf
    · cases hf
theorem si_range2 (hg : Gl X "range") (hm : X.mg "range" = none) (ha : SE X ct a fa) (hb : SE X ct b fb) (hs : starEach [a, b] X.env = [(false, eval a X.env), (false, eval b X.env)] := by rfl) (hs2 : starEach [b] X.env = [(false, eval b X.env)] := by rfl) : SI X ct tg (.Call (.Name "range" p) [a, b] [] pos) (fRng2 fa fb) :=
  PI.imp (pi_range2 hg hm (sa_cons ha (sa_cons hb sa_nil hs2) (by rw [hs, hs2])) hs hs2) fun σ H R ⟨ρ, M, env, r, he, src, M', hf, hq⟩ => by
    obtain ⟨d, M1, h1, hf⟩ := bnd_some hf
    obtain ⟨d2, M2, h2, hf⟩ := bnd_some hf
    refine ⟨ρ, M, env, r, he, [d, d2], M2, by show bnd (fa env M) _ = _; rw [h1]; show bnd (bnd (fb env M1) _) _ = _; rw [h2]; rfl, fun ρ1 H1 e1 r1 vs dvs => ?_⟩
    split at hf
    · split at hf
      · rename_i hb
        cases hf
        obtain ⟨v, u, rfl, d1, d2⟩ := dvs_two dvs
        cases d1; cases d2
        exact ⟨_, _, rfl, hb, hq ρ1 H1 e1 r1 _ feeds_rng⟩
      · cases hf
    · cases hf

/-! ## for -/
variable {g : FG} {f : FS} {body : List Stmt} {ws : List Nat}
def loopF (it : Stp) (g : FG) (f : FS) : Nat → Nat → FS
  | 0, i => fun env M => match it i M with
    | some none => some (.nx env, M)
    | _ => none
  | k + 1, i => fun env M => match it i M with
    | some none => some (.nx env, M)
    | some (some d) => bnd (g d env M) fun e1 M1 => bnd (f e1 M1) fun fl M2 => match fl with
      | .nx e2 => loopF it g f k (i + 1) e2 M2
      | .ct e2 => loopF it g f k (i + 1) e2 M2
      | .bk e2 => some (.nx e2, M2)
      | .rt d => some (.rt d, M2)
    | none => none
def fFor (fi : FI) (g : FG) (f : FS) : FS := fun env M => bnd (fi env M) fun src M1 => loopF src.stp g f src.many 0 env M1
theorem ss_for (hp : PassesOwn (model X.prog X.w) X.A X.env X.xe) (hc : X.calm = true) (hi : SI X ct tg iter fi) (hg : SG X ct ws tg g) (hb : SSs X ct body f)
    (hs : ∀ x, foldedSetIterable iter X.env x = pure x := by intro _; rfl) : SS X ct (.For tg iter body [] pos) (fFor fi g f) := by
  refine PS.imp (ps_for hp hc hi hg hb hs) fun D σ H ⟨ρ, M, env, r, he, fl, M', hf, hq⟩ => ?_
  obtain ⟨src, M1, h1, hf⟩ := bnd_some hf
  refine ⟨ρ, M, env, r, he, src, M1, h1, fun ρ0 H0 e0 r0 J hJ => ?_⟩
  refine ⟨fun i m σ H => ∃ ρ M env, Ext X.K ρ0 H0 ρ H ∧ Rl X.K ct ρ M H ∧ EnOk X.K ρ H env σ ∧ ∃ fl M', loopF src.stp g f m i env M = some (fl, M') ∧ Aft X.K ct ρ H M' fun ρ' H' => endF X.K D fl ρ' H',
    ⟨src.many, ρ0, M1, env, .refl, r0, he.mono e0, fl, M', hf, hq.later e0⟩, ?_⟩
  rintro i m σ H ⟨ρ, M, env, x0, r, he, fl, M', hf, hq⟩
  have hj := hJ i ρ M H x0 r
  cases q : src.stp i M with
  | none =>
    cases m with
    | zero => (simp only [loopF, q] at hf; try cases hf)
    | succ m => (simp only [loopF, q] at hf; try cases hf)
  | some o =>
    rw [q] at hj
    cases o with
    | none =>
      have e : some (Fl.nx env, M) = some (fl, M') := by
        cases m with
        | zero => simpa only [loopF, q] using hf
        | succ m => simpa only [loopF, q] using hf
      cases e
      exact .inl ⟨hj, hq ρ H .refl r σ he⟩
    | some d =>
      cases m with
      | zero => (simp only [loopF, q] at hf; try cases hf)
      | succ m =>
        simp only [loopF, q] at hf
        obtain ⟨e1, N1, g1, hf⟩ := bnd_some hf
        obtain ⟨f1, N2, g2, hf⟩ := bnd_some hf
        refine .inr ⟨hj.1, fun σ' H' => ∃ ρ M env, Ext X.K ρ0 H0 ρ H' ∧ Rl X.K ct ρ M H' ∧ EnOk X.K ρ H' env σ' ∧ ∃ fl M', loopF src.stp g f m (i + 1) env M = some (fl, M') ∧ Aft X.K ct ρ H' M' fun ρ' H' => endF X.K D fl ρ' H',
          fun σ' H' n => ⟨m, Nat.lt_succ_self m, n⟩, fun x H' hy => ?_⟩
        obtain ⟨y1, y2, y3⟩ := hj.2 x H' hy
        refine ⟨ρ, M, env, d, y2, he.mono y1, y3, e1, N1, g1, fun ρ1 H1 x1 r1 σ1 en1 _ => ⟨ρ1, N1, e1, r1, en1, f1, N2, g2, fun ρ2 H2 x2 r2 => ?_⟩⟩
        have xx := (y1.trans x1).trans x2
        cases f1 with
        | nx e3 => exact fun σ2 en2 => ⟨ρ2, N2, e3, x0.trans xx, r2, en2, fl, M', hf, hq.later xx⟩
        | ct e3 => exact fun σ2 en2 => ⟨ρ2, N2, e3, x0.trans xx, r2, en2, fl, M', hf, hq.later xx⟩
        | bk e3 => cases hf; exact fun σ2 en2 => hq ρ2 H2 xx r2 σ2 en2
        | rt d => cases hf; exact hq ρ2 H2 xx r2
/-! ## comprehensions, one clause -/
def wipeE (env : En) : List Nat → En
  | [] => env
  | v :: vs => (wipeE env vs).set v none
theorem EnOk.forget {K : Frg} {ρ : List Addr} {H : Hp} {env : En} {σ : L2.St} (h : EnOk K ρ H env σ) (i : Nat) : EnOk K ρ H (env.set i none) (σ.set i none) := by
  refine ⟨by simp [h.1], fun j x q => ?_⟩
  by_cases hij : i = j
  · subst hij
    rw [List.getElem?_set] at q
    split at q
    · split at q
      · cases q
      · cases q
    · exact absurd rfl (by assumption)
  · rw [List.getElem?_set_ne hij] at q
    obtain ⟨u, h1, h2⟩ := h.2 j x q
    exact ⟨u, by rw [List.getElem?_set_ne hij]; exact h1, h2⟩
theorem EnOk.wipe {K : Frg} {ρ : List Addr} {H : Hp} {env : En} {σ : L2.St} (h : EnOk K ρ H env σ) : ∀ vs : List Nat, EnOk K ρ H (wipeE env vs) (L2.wipe σ vs)
  | [] => h
  | v :: vs => (EnOk.wipe h vs).forget v
theorem getElem?_wipe (σ : L2.St) (i : Nat) : ∀ vs : List Nat, (L2.wipe σ vs)[i]? = if i ∈ vs then (if i < σ.length then some none else none) else σ[i]?
  | [] => by simp [L2.wipe]
  | v :: vs => by
    unfold L2.wipe
    rw [List.getElem?_set, getElem?_wipe σ i vs, L2.wipe_length]
    by_cases hv : v = i
    · subst hv; simp
    · simp [hv, Ne.symm hv]
theorem wipe_eq {vs : List Nat} {σ σ' : L2.St} (h : OutEq vs (L2.wipe σ vs) σ') : L2.wipe σ' vs = L2.wipe σ vs := by
  apply List.ext_getElem?
  intro i
  have hl : σ'.length = σ.length := by rw [h.1, L2.wipe_length]
  rw [getElem?_wipe, getElem?_wipe, hl]
  by_cases hi : i ∈ vs
  · simp [hi]
  · rw [if_neg hi, if_neg hi, h.2 i hi, getElem?_wipe, if_neg hi]
/-- the turns: the new list stands at cell n -/
def compF (it : Stp) (g : FG) (ft : FT) (fe : FE) (e0 : En) (n : Nat) : Nat → Nat → Mem → Option Mem
  | 0, i, M => match it i M with
    | some none => some M
    | _ => none
  | k + 1, i, M => match it i M with
    | some none => some M
    | some (some d) => match g d e0 M with
      | some (e1, M1) => match ft e1 M1 with
        | some (true, M2) => match fe e1 M2 with
          | some (y, M3) => match M3[n]? with
            | some (.lst acc) => if acc.length < sizeLine then compF it g ft fe e0 n k (i + 1) (M3.set n (.lst (acc ++ [y]))) else none
            | _ => none
          | none => none
        | some (false, M2) => compF it g ft fe e0 n k (i + 1) M2
        | none => none
      | none => none
    | none => none
def fComp (fi : FI) (vs : List Nat) (g : FG) (ft : FT) (fe : FE) : FE := fun env M => bnd (fi env M) fun src M1 =>
  match compF src.stp g ft fe (wipeE env vs) M1.length src.many 0 (M1 ++ [.lst []]) with
  | some M2 => some (.loc M1.length, M2)
  | none => none
def fYes : FT := fun _ M => some (true, M)
abbrev STs (X : Cx) (ct : Ct) (ifs : List Expr) (f : FT) : Prop := PTs X ifs (tT X.K ct f)
theorem PTs.imp {ifs : List Expr} {t t' : TT} (h : PTs X ifs t) (k : ∀ σ H Q, t' σ H Q → t σ H Q) : PTs X ifs t' := ⟨fun pins s σ H Q I w => h.run pins s σ H Q I (k σ H Q w)⟩
theorem sts_nil : STs X ct [] fYes := PTs.imp pts_nil fun σ H Q ⟨ρ, M, env, r, he, b, M', hf, hq⟩ => by
  cases hf
  exact hq ρ H .refl r
theorem sts_one {c : Expr} {ft : FT} (h : ST X ct c ft) : STs X ct [c] ft := pts_one h
/-- a comprehension's block -/
abbrev Cx.cb (X : Cx) (scope : Scope) (s : Shared) (H : Hp) (C : Addr) (cl : List (Str × Addr)) (fp : List Addr) : Cx := X.blk s H scope (compEnvC scope cl C X.env) fp
theorem lc_imp {vs : List Nat} {ft : FT} {σ : L2.St} {H : Hp} {Q : VK} (w : tE X.K ct (fComp fi vs g ft fe) σ H Q) : tLc (tI X.K ct fi) (tG X.K ct vs g) (tT X.K ct ft) (tE X.K ct fe) vs σ H Q := by
  obtain ⟨ρ, M, env, r, he, d, M', hf, hq⟩ := w
  obtain ⟨src, M1, h1, hf⟩ := bnd_some hf
  split at hf
  · rename_i M2 hc
    cases hf
    refine ⟨ρ, M, env, r, he, src, M1, h1, fun ρ0 H0 e0 r0 J hJ D hD => ?_⟩
    obtain ⟨rN, xN, aN⟩ := r0.newL hD (.nil : DVs X.K ρ0 H0 [] [])
    refine ⟨fun i m H => ∃ ρ M, Ext X.K ρ0 H0 ρ H ∧ Rl X.K ct ρ M H ∧ ρ[M1.length]? = some D ∧ compF src.stp g ft fe (wipeE env vs) M1.length m i M = some M' ∧ Aft X.K ct ρ H M' fun ρ' H' => ∀ v, DV X.K ρ' H' (.loc M1.length) v → Q v H',
      ⟨src.many, ρ0 ++ [D], _, xN, rN, aN, hc, (hq.later e0).later xN⟩, ?_⟩
    rintro i m H ⟨ρ, M, x0, r, aD, hf, hq⟩
    have hj := hJ i ρ M H x0 r
    have he' := ((he.mono e0).mono x0).wipe vs
    cases q : src.stp i M with
    | none =>
      cases m with
      | zero => rw [compF, q] at hf; cases hf
      | succ m => rw [compF, q] at hf; cases hf
    | some o =>
      rw [q] at hj
      cases o with
      | none =>
        have e : some M = some M' := by
          cases m with
          | zero => rw [compF, q] at hf; exact hf
          | succ m => rw [compF, q] at hf; exact hf
        cases e
        exact .inl ⟨hj, hq ρ H .refl r _ (.loc aD)⟩
      | some d =>
        cases m with
        | zero => rw [compF, q] at hf; cases hf
        | succ m =>
          rw [compF, q] at hf
          dsimp only at hf
          refine .inr ⟨hj.1, fun H' => ∃ ρ M, Ext X.K ρ0 H0 ρ H' ∧ Rl X.K ct ρ M H' ∧ ρ[M1.length]? = some D ∧ compF src.stp g ft fe (wipeE env vs) M1.length m (i + 1) M = some M' ∧ Aft X.K ct ρ H' M' fun ρ' H' => ∀ v, DV X.K ρ' H' (.loc M1.length) v → Q v H',
            fun H' n => ⟨m, Nat.lt_succ_self m, n⟩, fun x H' hy => ?_⟩
          obtain ⟨y1, y2, y3⟩ := hj.2 x H' hy
          split at hf
          · rename_i e1 N1 g1
            refine ⟨ρ, M, wipeE env vs, d, y2, he'.mono y1, y3, e1, N1, g1, fun ρ1 H1 x1 r1 σ1 en1 oe => ⟨wipe_eq oe, ?_⟩⟩
            split at hf
            · rename_i N2 g2
              refine ⟨ρ1, N1, e1, r1, en1, true, N2, g2, fun ρ2 H2 x2 r2 => ?_⟩
              dsimp only
              rw [if_pos rfl]
              split at hf
              · rename_i y N3 g3
                refine ⟨ρ2, N2, e1, r2, en1.mono x2, y, N3, g3, fun ρ3 H3 x3 r3 v dv => ?_⟩
                split at hf
                · rename_i acc hm
                  split at hf
                  · rename_i hl
                    have xx := ((y1.trans x1).trans x2).trans x3
                    have aD3 := xx.pre _ _ aD
                    obtain ⟨b, ws, eb, b1, b2, b3⟩ := r3.lst hm (.loc aD3)
                    cases eb
                    obtain ⟨r4, x4⟩ := r3.putL aD3 (b3.append (.cons dv .nil))
                    exact ⟨ws, b2, by rw [← b3.length]; exact hl, ρ3, _, (x0.trans xx).trans x4, r4, aD3, hf, hq.later (xx.trans x4)⟩
                  · cases hf
                · cases hf
              · cases hf
            · rename_i N2 g2
              refine ⟨ρ1, N1, e1, r1, en1, false, N2, g2, fun ρ2 H2 x2 r2 => ?_⟩
              dsimp only
              rw [if_neg (by decide)]
              have xx := (y1.trans x1).trans x2
              exact ⟨ρ2, N2, x0.trans xx, r2, xx.pre _ _ aD, hf, hq.later xx⟩
            · cases hf
          · cases hf
  · cases hf
theorem se_comp {elt : Expr} {ifs : List Expr} {scope : Scope} {own : List (Str × Nat)} {ft : FT} (hc : X.calm = true) (hN : X.N.Nodup) (hi : SI X ct tg iter fi) (ok : BlkOk X.N X.env.scope scope own)
    (hg : ∀ s H C cl fp, SG (Cx.cb X scope s H C cl fp) ct (own.map (·.2)) tg g) (ht : ∀ s H C cl fp, STs (Cx.cb X scope s H C cl fp) ct ifs ft)
    (he : ∀ s H C cl fp, SE (Cx.cb X scope s H C cl fp) ct elt fe) (hs : ∀ x, foldedSetIterable iter X.env x = pure x := by intro _; rfl) : SE X ct (.ListComp elt [⟨tg, iter, ifs, 0⟩] scope pos) (fComp fi (own.map (·.2)) g ft fe) :=
  PE.imp (pe_lc hc hN hi ok hg ht he hs) fun _ _ _ w => lc_imp w
/-- name = [..] -/
theorem ss_setLc {i : Nat} {y : Str} {py : Pos} {elt : Expr} {ifs : List Expr} {scope : Scope} {own : List (Str × Nat)} {ft : FT} {spos : Pos} (hc : X.calm = true) (hN : X.N.Nodup) (hy : X.N[i]? = some y) (hyl : X.env.scope.names.lookup y = some .local)
    (hsw : swapsWith (.ListComp elt [⟨tg, iter, ifs, 0⟩] scope pos) (some (.Name y py)) spos.line X.env = pure true) (hi : SI X ct tg iter fi) (ok : BlkOk X.N X.env.scope scope own)
    (hg : ∀ s H C cl fp, SG (Cx.cb X scope s H C cl fp) ct (own.map (·.2)) tg g) (ht : ∀ s H C cl fp, STs (Cx.cb X scope s H C cl fp) ct ifs ft)
    (he : ∀ s H C cl fp, SE (Cx.cb X scope s H C cl fp) ct elt fe) (hs : ∀ x, foldedSetIterable iter X.env x = pure x := by intro _; rfl) :
    SS X ct (.Assign [.Name y py] (.ListComp elt [⟨tg, iter, ifs, 0⟩] scope pos) spos) (fSet i (fComp fi (own.map (·.2)) g ft fe)) :=
  PS.imp (ps_setLc hc hN hy hyl hsw hi ok hg ht he hs) fun D σ H ⟨ρ, M, env, r, hen, fl, M', hf, hq⟩ => by
    obtain ⟨d, M1, h1, hf⟩ := bnd_some hf
    cases hf
    exact lc_imp ⟨ρ, M, env, r, hen, d, _, h1, fun ρ1 H1 e1 r1 v dv => hq ρ1 H1 e1 r1 _ ((hen.mono e1).set i dv)⟩
end
end Zl

/-! text Z9 -/
namespace Zl
open PySem L2 PySem.Spec PyProof.Rows

/-! ## Defs -/
/-- a def of which no error leaves, called where no repr runs -/
structure FnG (P : Program) (w : World) (K : Frg) (mg : Str → Option Value) (base : Heap) (k : Nat) (f : Addr) (fd : FuncData) (ps : List Str) (sp : Sp) : Prop where
  len : ∀ vs H Q E, sp vs H Q E → vs.length = ps.length
  run : ∀ (A : Around) (outer : List Env) (s : Shared) (H : Hp) (args : Args) (us : List Value) (vs : List V) (Q : VK) (E : XK), Room k A → A.guards = some [] → Env0 P w K mg base A outer s H → BindsTo s fd args (ps.zip us) → Vals vs us → sp vs H Q E →
    codeAny (model P w) A (.call (.ref f) args) (CR CX0 outer P w H s Q E) s
theorem FnG.mono {P : Program} {w : World} {K : Frg} {mg : Str → Option Value} {base : Heap} {j k : Nat} {f : Addr} {fd : FuncData} {ps : List Str} {sp : Sp} (F : FnG P w K mg base j f fd ps sp) (h : j ≤ k) : FnG P w K mg base k f fd ps sp :=
  ⟨F.len, fun A outer s H args us vs Q E hr => F.run A outer s H args us vs Q E (hr.mono h)⟩
abbrev FF := List Dv → Mem → Rz
def spF (K : Frg) (ct : Ct) (F : FF) (n : Nat) : Sp := fun vs H Q _ => vs.length = n ∧ ∃ ρ M ds, Rl K ct ρ M H ∧ DVs K ρ H ds vs ∧ ∃ d M', F ds M = some (d, M') ∧ Aft K ct ρ H M' fun ρ' H' => ∀ v, DV K ρ' H' d v → Q v H'
/-- the def's value by its body; n names in all -/
def callF (n : Nat) (f : FS) : FF := fun ds M => match f (ds.map some ++ List.replicate (n - ds.length) none) M with
  | some (.rt d, M') => some (d, M')
  | some (.nx _, M') => some (.non, M')
  | _ => none
theorem enOk_start {K : Frg} {ρ : List Addr} {H : Hp} {N : List Str} {ds : List Dv} {vs : List V} (h : DVs K ρ H ds vs) : EnOk K ρ H (ds.map some ++ List.replicate (N.length - ds.length) none) (L2.start N vs) := by
  have hl := h.length
  refine ⟨by simp [L2.start, hl], fun i d q => ?_⟩
  by_cases hi : i < ds.length
  · rw [List.getElem?_append_left (by simpa using hi), List.getElem?_map] at q
    have e : ds[i]? = some d := by
      cases z : ds[i]? with
      | none => rw [z] at q; simp at q
      | some y => rw [z] at q; simp at q; rw [q]
    obtain ⟨v, h1, h2⟩ := h.get e
    refine ⟨v, ?_, h2⟩
    unfold L2.start
    rw [List.getElem?_append_left (by rw [List.length_map, ← hl]; exact hi), List.getElem?_map, h1]; rfl
  · rw [List.getElem?_append_right (by simpa using hi), List.getElem?_replicate] at q
    split at q <;> cases q
section
variable {P : Program} {w : World} {K : Frg} {mg : Str → Option Value} {base : Heap} {ct : Ct}
/-- THE RULE: a def by its body -/
theorem fn_sim {x qual : Str} {st : Stmt} {f : Addr} {fd : FuncData} {N ps : List Str} {k : Nat} {b : FS} (F : Fun K x qual st f fd) (S : FnScope N ps (defScope st))
    (hbody : ∀ (cdv : Value) (A : Around) (outer : List Env) (s : Shared) (H : Hp) (E : XK), Room k (A.deeper (envOfC qual (defScope st) s.heap.objs.size f cdv)) → (A.deeper (envOfC qual (defScope st) s.heap.objs.size f cdv)).guards = some [] →
      SSs (cxOf CX0 P w K mg base N qual (defScope st) f cdv A outer s H E).nox ct (defBody st) b) : FnG P w K mg base (k + 1) f fd ps (spF K ct (callF N.length b) ps.length) := by
  obtain ⟨oc, od, kV, doc, pm, an, cdv, ct', osl, rfl, lk, hcd⟩ := F.ex
  refine ⟨fun vs H Q E h => h.1, fun A outer s H args us vs Q E hr hgd e0 hb r hsp => ?_⟩
  obtain ⟨hl, ρ, M, ds, rl, dv, d, M', hf, hq⟩ := hsp
  have KX : K.In s.heap := e0.mod.kin.keeps fun b o e => (e0.bs b o e).1
  have lim : s.heap.NoLimit := e0.mod.nolimit.keeps fun b o e => (e0.bs b o e).1
  have hkind : ∀ y ∈ ps.zip us, (defScope st).names.lookup y.1 = some .local ∨ ((defScope st).names.lookup y.1 = some .cell ∧ ((cellsFrom (s.heap.objs.size + 1) (defScope st).names []).lookup y.1).isSome = true) := by
    rintro ⟨n, v⟩ hy
    rcases S.par n (List.of_mem_zip hy).1 with z | z
    · exact .inl z
    · exact .inr ⟨z, PySem.W.cellsFrom_some _ _ _ (.inl z)⟩
  refine codeAny_call_function hr.depth (KX _ _ lk) rfl S.co S.gen rfl (PySem.W.codeRec_of KX hcd) (hb _ _ _ _ ?_)
  refine wpAny_newFunctionEnv_cells S.kind hkind fun env hen s1 x1 => ?_
  subst hen
  refine ⟨lim.keeps x1.toInCall.keep, codeAny_func ?_⟩
  have B := hbody cdv A outer s H E (hr.deeper _) hgd
  have I : Inv (cxOf CX0 P w K mg base N qual (defScope st) f cdv A outer s H E) [] (L2.start N vs) H s1 := inv_start S hr.hd e0 hl r x1
  unfold callF at hf
  have hw : ∃ fl, b (ds.map some ++ List.replicate (N.length - ds.length) none) M = some (fl, M') ∧ ((fl = .rt d) ∨ ∃ e, fl = .nx e ∧ d = .non) := by
    split at hf
    · rename_i z
      cases hf
      exact ⟨_, z, .inl rfl⟩
    · rename_i z
      cases hf
      exact ⟨_, z, .inr ⟨_, rfl, rfl⟩⟩
    · cases hf
  obtain ⟨fl, hb1, hfl⟩ := hw
  have Z := (PSs.nox B).run [] s1 (L2.start N vs) H { nx := fun _ H' => Q .non H', rt := Q } I ⟨ρ, M, _, rl, enOk_start dv, fl, M', hb1, fun ρ' H' e' r' => by
    rcases hfl with rfl | ⟨e, rfl, rfl⟩
    · exact fun v hv => hq ρ' H' e' r' v hv
    · exact fun σ _ => hq ρ' H' e' r' _ .non⟩
  refine wpAny_mono Z (fun fl s' hs => ?_) fun e s' hs => hs
  have fin : ∀ {σ' : L2.St} {H' : Hp} {v : V} {u : Value}, Inv (cxOf CX0 P w K mg base N qual (defScope st) f cdv A outer s H E) [] σ' H' s' → RelV v u → Q v H' → CE outer P w H s Q u s' :=
    fun {σ' H' v u} J rv q => ⟨v, H', J.os, J.bare, J.base, J.hok, rv, q⟩
  cases fl with
  | ret u =>
    obtain ⟨v, σ', H', J, rv, q⟩ := hs
    exact fin J rv q
  | next =>
    obtain ⟨σ', H', J, q⟩ := hs
    exact fin (v := V.non) (u := Value.none) J rfl q
  | brk => exact False.elim hs.choose_spec.choose_spec.2
  | cont => exact False.elim hs.choose_spec.choose_spec.2
end
section
variable {X : Cx} {ct : Ct} {k : Nat} {f C : Addr} {fd : FuncData} {ps : List Str} {F : FF} {x m : Str} {p pos apos : Pos} {e o v' : Expr} {es : List Expr} {fr : FA} {fo fv : FE} {c : Nat}
abbrev SF (X : Cx) (ct : Ct) (k : Nat) (f : Addr) (fd : FuncData) (ps : List Str) (F : FF) : Prop := FnG X.prog X.w X.K X.mg X.base k f fd ps (spF X.K ct F ps.length)
/-- the callee runs -/
theorem run_fnG {pins : List (Addr × Obj)} {σ : L2.St} {H : Hp} {s : Shared} {Q : VK} {us us' : List Value} {kw : List (Str × Value)} {vs : List V} {sp : Sp} (G : FnG X.prog X.w X.K X.mg X.base k f fd ps sp) (hr : Room k X.A) (hgd : X.A.guards = some [])
    (I : Inv X pins σ H s) (bt : BindsTo s fd ⟨us, kw⟩ (ps.zip us')) (r : Vals vs us') (h : sp vs H Q E0) : wpAny (model X.prog X.w) X.A (call (.ref f) us kw) (EP X pins σ Q) X.xe s := by
  refine wpAny_call (codeAny_mono (G.run X.A X.stack s H ⟨us, kw⟩ us' vs Q E0 hr hgd I.env0 bt r h) fun z s' hq => ?_)
  match z, hq with
  | .ok (.ret u), hq => exact I.after hq
theorem spF_use {ρ ρ1 : List Addr} {M1 M' : Mem} {H H1 : Hp} {d : Dv} {ds : List Dv} {vs : List V} {n : Nat} {Q : VK} (hn : ds.length = n) (e1 : Ext X.K ρ H ρ1 H1) (r1 : Rl X.K ct ρ1 M1 H1) (dvs : DVs X.K ρ1 H1 ds vs) (hf : F ds M1 = some (d, M'))
    (hq : Aft X.K ct ρ H M' fun ρ' H' => ∀ v, DV X.K ρ' H' d v → Q v H') : spF X.K ct F n vs H1 Q E0 :=
  ⟨by rw [← dvs.length]; exact hn, ρ1, M1, ds, r1, dvs, d, M', hf, hq.later e1⟩
/-- f(e, ..) -/
def fCall (n : Nat) (F : FF) (fr : FA) : FE := fun env M => bnd (fr env M) fun ds M1 => if ds.length = n then F ds M1 else none
theorem se_call (G : SF X ct k f fd ps F) (hr : Room k X.A) (hgd : X.A.guards = some []) (hg : Gl X x) (hm : X.mg x = some (.ref f)) (hk : PySem.W.keepIn X.K (.ref f) = true) (hb : Binds X.K fd ps []) (ha : SA X ct (e :: es) fr)
    (hdb : (x == ("__debug__" : Str)) = false := by decide) (he : starEach (e :: es) X.env = (false, eval e X.env) :: starEach es X.env := by rfl)
    (hpl : (backTo pos (starEach es X.env)).any (·.1) = false := by rfl) : SE X ct (.Call (.Name x p) (e :: es) [] pos) (fCall ps.length F fr) := by
  refine ⟨fun pins s σ H Q I w => ?_⟩
  obtain ⟨ρ, M, env, r, hen, d, M', hf, hq⟩ := w
  obtain ⟨ds, M1, h1, hf⟩ := bnd_some hf
  split at hf
  · rename_i hn
    refine wpAny_Call_Name_kw (ld_glob I hg hm ?_ hdb)
    refine PySem.W.callWith_K (h₀ := X.base) I.ok.mod.kin hk (thn (ha.run pos pins s σ H (fun vs H1 => ∃ ρ1, Ext X.K ρ H ρ1 H1 ∧ Rl X.K ct ρ1 M1 H1 ∧ DVs X.K ρ1 H1 ds vs) I ⟨ρ, M, env, r, hen, ds, M1, h1, fun ρ1 H1 e1 r1 vs dvs => ⟨ρ1, e1, r1, dvs⟩⟩) fun us s1 z => ?_) he hpl
    obtain ⟨vs, H1, I1, rv, ρ1, e1, r1, dvs⟩ := z
    refine ⟨I1.kIn, run_fnG G hr hgd I1 (hb s1 us I1.kIn (by rw [List.append_nil, ← rv.length, ← dvs.length]; exact hn)) (by rw [List.append_nil]; exact rv) (spF_use hn e1 r1 dvs hf hq)⟩
  · cases hf
theorem se_call0 (G : SF X ct k f fd ps F) (hr : Room k X.A) (hgd : X.A.guards = some []) (hg : Gl X x) (hm : X.mg x = some (.ref f)) (hk : PySem.W.keepIn X.K (.ref f) = true) (hb : Binds X.K fd ps [])
    (hdb : (x == ("__debug__" : Str)) = false := by decide) : SE X ct (.Call (.Name x p) [] [] pos) (fCall ps.length F fNil) := by
  refine ⟨fun pins s σ H Q I w => ?_⟩
  obtain ⟨ρ, M, env, r, hen, d, M', hf, hq⟩ := w
  obtain ⟨ds, M1, h1, hf⟩ := bnd_some hf
  cases h1
  split at hf
  · rename_i hn
    refine wpAny_Call_Name_kw (ld_glob I hg hm ?_ hdb)
    exact PySem.W.callWith_K0 I.kIn hk (run_fnG (us := []) (us' := []) (vs := []) G hr hgd I (hb s [] I.kIn (by simpa using hn)) .nil (spF_use hn .refl r .nil hf hq))
  · cases hf
/-! ### keywords -/
abbrev SK (X : Cx) (ct : Ct) (kws : List Keyword) (f : FA) : Prop := PK X kws (tA X.K ct f)
theorem PK.imp {kws : List Keyword} {t t' : TA} (h : PK X kws t) (q : ∀ σ H Q, t' σ H Q → t σ H Q) : PK X kws t' := ⟨fun pos pins s σ H Q I w => h.run pos pins s σ H Q I (q σ H Q w)⟩
theorem sk_nil : SK X ct [] fNil := PK.imp pk_nil fun σ H Q ⟨ρ, M, env, r, he, d, M', hf, hq⟩ => by
  cases hf
  exact hq ρ H .refl r _ .nil
theorem sk_cons {kws : List Keyword} {nm : Option Str} {kpos : Pos} (h : SE X ct e fo) (q : SK X ct kws fr) : SK X ct (⟨nm, e, kpos⟩ :: kws) (fCons fo fr) :=
  PK.imp (pk_cons h q) fun σ H Q ⟨ρ, M, env, r, he, d, M', hf, hq⟩ => by
    obtain ⟨x, M1, h1, hf⟩ := bnd_some hf
    obtain ⟨ys, M2, h2, hf⟩ := bnd_some hf
    cases hf
    exact ⟨ρ, M, env, r, he, x, M1, h1, fun ρ1 H1 e1 r1 v dv => ⟨ρ1, M1, env, r1, he.mono e1, ys, _, h2, fun ρ2 H2 e2 r2 vs dvs => hq ρ2 H2 (e1.trans e2) r2 _ (.cons (dv.mono e2) dvs)⟩⟩
def pick {α : Type} (is : List Nat) (xs : List α) : List α := is.filterMap fun i => xs[i]?
theorem pick_vals {vs : List V} {us : List Value} (h : Vals vs us) : ∀ is : List Nat, Vals (pick is vs) (pick is us)
  | [] => .nil
  | i :: is => by
    unfold pick
    rw [List.filterMap_cons, List.filterMap_cons]
    cases q : vs[i]? with
    | none => rw [h.none_of q]; exact pick_vals h is
    | some v =>
      obtain ⟨u, h1, h2⟩ := h.get q
      rw [h1]; exact .cons h2 (pick_vals h is)
theorem pick_dvs {K : Frg} {ρ : List Addr} {H : Hp} {ds : List Dv} {vs : List V} (h : DVs K ρ H ds vs) : ∀ is : List Nat, DVs K ρ H (pick is ds) (pick is vs)
  | [] => .nil
  | i :: is => by
    unfold pick
    rw [List.filterMap_cons, List.filterMap_cons]
    cases q : ds[i]? with
    | none =>
      have z : vs[i]? = none := List.getElem?_eq_none_iff.mpr (by rw [← h.length]; exact List.getElem?_eq_none_iff.mp q)
      rw [z]; exact pick_dvs h is
    | some v =>
      obtain ⟨u, h1, h2⟩ := h.get q
      rw [h1]; exact .cons h2 (pick_dvs h is)
/-- how a call by keywords alone binds: parameter j gets the keyword is[j] -/
def KwB (K : Frg) (fd : FuncData) (ps ks : List Str) (is : List Nat) : Prop := ∀ (s : Shared) (ws : List Value), K.In s.heap → ws.length = ks.length → BindsTo s fd ⟨[], ks.zip ws⟩ (ps.zip (pick is ws))
def fCallK (n nk : Nat) (is : List Nat) (F : FF) (fr : FA) : FE := fun env M => bnd (fr env M) fun ds M1 => if ds.length = nk ∧ (pick is ds).length = n then F (pick is ds) M1 else none
theorem se_callK {kws : List Keyword} {ks : List Str} {is : List Nat} (G : SF X ct k f fd ps F) (hr : Room k X.A) (hgd : X.A.guards = some []) (hg : Gl X x) (hm : X.mg x = some (.ref f)) (hk : PySem.W.keepIn X.K (.ref f) = true) (hb : KwB X.K fd ps ks is) (ha : SK X ct kws fr)
    (hall : (backToKw pos (keywordEach kws X.env)).all (·.1.isSome) = true := by rfl) (hks : (backToKw pos (keywordEach kws X.env)).filterMap (·.1) = ks := by rfl) (hdb : (x == ("__debug__" : Str)) = false := by decide)
    (hpl : ((backTo pos (starEach [] X.env)).any (·.1) || (backToKw pos (keywordEach kws X.env)).any (·.1.isNone)) = false := by rfl) : SE X ct (.Call (.Name x p) [] kws pos) (fCallK ps.length ks.length is F fr) := by
  refine ⟨fun pins s σ H Q I w => ?_⟩
  obtain ⟨ρ, M, env, r, hen, d, M', hf, hq⟩ := w
  obtain ⟨ds, M1, h1, hf⟩ := bnd_some hf
  split at hf
  · rename_i hn
    refine wpAny_Call_Name_kw (ld_glob I hg hm ?_ hdb)
    refine PySem.W.callWith_KW0 (h₀ := X.base) I.ok.mod.kin hk hall ?_ hpl
    refine thn (ha.run pos pins s σ H (fun vs H1 => ∃ ρ1, Ext X.K ρ H ρ1 H1 ∧ Rl X.K ct ρ1 M1 H1 ∧ DVs X.K ρ1 H1 ds vs) I ⟨ρ, M, env, r, hen, ds, M1, h1, fun ρ1 H1 e1 r1 vs dvs => ⟨ρ1, e1, r1, dvs⟩⟩) fun us s1 z => ?_
    obtain ⟨vs, H1, I1, rv, ρ1, e1, r1, dvs⟩ := z
    rw [hks]
    exact ⟨I1.kIn, run_fnG G hr hgd I1 (hb s1 us I1.kIn (by rw [← rv.length, ← dvs.length]; exact hn.1)) (pick_vals rv is) (spF_use hn.2 e1 r1 (pick_dvs dvs is) hf hq)⟩
  · cases hf
/-! ## Instances -/
def putD (f : Str) (v : Dv) : List (Str × Dv) → List (Str × Dv)
  | [] => [(f, v)]
  | (g, x) :: r => if g = f then (g, v) :: r else (g, x) :: putD f v r
section
variable {K : Frg} {ρ : List Addr} {H : Hp}
theorem FV.nil : FV K ρ H [] [] := ⟨rfl, .nil⟩
theorem FV.length {fs : List (Str × Dv)} {vfs : List (Str × V)} (h : FV K ρ H fs vfs) : fs.length = vfs.length := by
  have := congrArg List.length h.1
  simpa using this
theorem FV.split {f : Str} {d : Dv} {fs : List (Str × Dv)} {vfs : List (Str × V)} (h : FV K ρ H ((f, d) :: fs) vfs) : ∃ v r, vfs = (f, v) :: r ∧ DV K ρ H d v ∧ FV K ρ H fs r := by
  obtain ⟨h1, h2⟩ := h
  cases vfs with
  | nil => cases h1
  | cons q r =>
    obtain ⟨g, v⟩ := q
    simp only [List.map_cons, List.cons.injEq] at h1
    obtain ⟨rfl, h1⟩ := h1
    cases h2 with
    | cons d1 dr => exact ⟨v, r, rfl, d1, h1, dr⟩
theorem FV.look : ∀ {fs : List (Str × Dv)} {vfs : List (Str × V)} {f : Str}, FV K ρ H fs vfs → (∀ d, fs.lookup f = some d → ∃ v, vfs.lookup f = some v ∧ DV K ρ H d v) ∧ (fs.lookup f = none → vfs.lookup f = none)
  | [], vfs, f, h => by
    obtain ⟨h1, _⟩ := h
    cases vfs with
    | nil => exact ⟨fun d q => (by cases q), fun _ => rfl⟩
    | cons _ _ => cases h1
  | (g, d) :: fs, vfs, f, h => by
    obtain ⟨v, r, rfl, h1, h2⟩ := h.split
    obtain ⟨i1, i2⟩ := FV.look (f := f) h2
    rw [List.lookup_cons, List.lookup_cons]
    cases hb : f == g with
    | true => exact ⟨fun d' q => ⟨v, rfl, (by cases q; exact h1)⟩, fun q => (by cases q)⟩
    | false => exact ⟨i1, i2⟩
theorem FV.put {f : Str} {d : Dv} {v : V} (hd : DV K ρ H d v) : ∀ {fs : List (Str × Dv)} {vfs : List (Str × V)}, FV K ρ H fs vfs → FV K ρ H (putD f d fs) (putF f v vfs)
  | [], vfs, h => by
    obtain ⟨h1, _⟩ := h
    cases vfs with
    | nil => exact ⟨rfl, .cons hd .nil⟩
    | cons _ _ => cases h1
  | (g, d') :: fs, vfs, h => by
    obtain ⟨u, r, rfl, h1, h2⟩ := h.split
    unfold putD putF
    by_cases hg : g = f
    · rw [if_pos hg, if_pos hg]
      exact ⟨by simp [h2.1], .cons hd h2.2⟩
    · rw [if_neg hg, if_neg hg]
      obtain ⟨i1, i2⟩ := FV.put hd h2
      exact ⟨by simp [i1], .cons h1 i2⟩
end
theorem Rl.ins {K : Frg} {ρ : List Addr} {M : Mem} {H : Hp} (r : Rl K ct ρ M H) {n : Nat} {fs : List (Str × Dv)} (hm : M[n]? = some (.ins c fs)) {v : V} (hv : DV K ρ H (.loc n) v) :
    ∃ a C dx vfs, v = .ref a ∧ ρ[n]? = some a ∧ ct c = some C ∧ H a = some (.ins C dx vfs) ∧ FV K ρ H fs vfs := by
  obtain ⟨a, h1, C, dx, vfs, h2, h3, h4⟩ := r.ok n _ hm
  cases hv with
  | loc h => rw [h] at h1; cases h1; exact ⟨_, C, dx, vfs, rfl, h, h2, h3, h4⟩
/-- o.f -/
def fFld (c : Nat) (f : Str) (fo : FE) : FE := fun env M => bnd (fo env M) fun d M1 => match d with
  | .loc n => match M1[n]? with
    | some (.ins c' fs) => if c' = c then match fs.lookup f with
        | some x => some (x, M1)
        | none => none
      else none
    | _ => none
  | _ => none
theorem se_fld {fld : Str} (ho : SE X ct o fo) (hc : ct c = some C) (cl : Cls X.K C) (na : NoAttr X.K C fld) (hb : attributeBase o fld X.env (eval o X.env) = eval o X.env := by rfl) : SE X ct (.Attribute o fld pos) (fFld c fld fo) :=
  PE.imp (pe_fld ho hb) fun σ H Q ⟨ρ, M, env, r, he, d, M', hf, hq⟩ => by
    obtain ⟨x, M1, h1, hf⟩ := bnd_some hf
    refine ⟨ρ, M, env, r, he, x, M1, h1, fun ρ1 H1 e1 r1 v dv => ?_⟩
    split at hf
    · split at hf
      · rename_i hm
        split at hf
        · rename_i hcc
          split at hf
          · rename_i y hy
            cases hf
            subst hcc
            obtain ⟨a, C', dx, vfs, rfl, a1, a2, a3, a4⟩ := r1.ins hm dv
            rw [hc] at a2; cases a2
            obtain ⟨u, u1, u2⟩ := a4.look.1 _ hy
            exact ⟨a, C, dx, vfs, u, rfl, a3, cl, na, u1, hq ρ1 H1 e1 r1 _ u2⟩
          · cases hf
        · cases hf
      · cases hf
    · cases hf
/-- o.f = e -/
def fPut (c : Nat) (f : Str) (fo fv : FE) : FS := fun env M => bnd (fv env M) fun y M1 => bnd (fo env M1) fun d M2 => match d with
  | .loc n => match M2[n]? with
    | some (.ins c' fs) => if c' = c ∧ fs.length < 1000 then some (.nx env, M2.set n (.ins c (putD f y fs))) else none
    | _ => none
  | _ => none
theorem ss_fld {fld : Str} {pos' : Pos} (ho : SE X ct o fo) (hv : SE X ct v' fv) (hc : ct c = some C) (cl : Cls X.K C) (na : NoAttr X.K C fld) (hs : swapsWith v' (some (.Attribute o fld pos')) pos.line X.env = pure false := by rfl) :
    SS X ct (.Assign [.Attribute o fld pos'] v' pos) (fPut c fld fo fv) :=
  PS.imp (ps_fld ho hv hs) fun D σ H ⟨ρ, M, env, r, he, fl, M', hf, hq⟩ => by
    obtain ⟨y, M1, h1, hf⟩ := bnd_some hf
    obtain ⟨d, M2, h2, hf⟩ := bnd_some hf
    refine ⟨ρ, M, env, r, he, y, M1, h1, fun ρ1 H1 e1 r1 v dv => ⟨ρ1, M1, env, r1, he.mono e1, d, M2, h2, fun ρ2 H2 e2 r2 u du => ?_⟩⟩
    split at hf
    · split at hf
      · rename_i hm
        split at hf
        · rename_i hcc
          cases hf
          obtain ⟨hcc, hl⟩ := hcc
          subst hcc
          obtain ⟨a, C', dx, vfs, rfl, a1, a2, a3, a4⟩ := r2.ins hm du
          rw [hc] at a2; cases a2
          have xs : Ext X.K ρ2 H2 ρ2 (upd H2 a (.ins C dx (putF fld v vfs))) := Ext.soft (fun _ _ z => z) (fun _ q => by rw [a3] at q; cases q) fun _ _ q => by rw [a3] at q; cases q
          obtain ⟨r3, e3⟩ := r2.put (o := .ins _ (putD fld y _)) (o' := .ins C dx (putF fld v vfs)) a1 ⟨C, dx, _, hc, upd_same, (a4.put (dv.mono e2)).mono xs⟩
          exact ⟨a, C, dx, vfs, rfl, a3, cl, na, by rw [← a4.length]; exact hl, hq ρ2 _ ((e1.trans e2).trans e3) r3 σ (((he.mono e1).mono e2).mono e3)⟩
        · cases hf
      · cases hf
    · cases hf
/-- o.m(e, ..) of an own class -/
def isIns (c : Nat) (m : Str) (d : Dv) (M : Mem) : Bool :=
  match d with
  | .loc n => match M[n]? with
    | some (.ins c' fs) => c' == c && (fs.lookup m).isNone
    | _ => false
  | _ => false
def fMeth (c : Nat) (m : Str) (np : Nat) (F : FF) (fo : FE) (fr : FA) : FE := fun env M => bnd (fo env M) fun d M1 => if isIns c m d M1 then bnd (fr env M1) fun ds M2 => if (d :: ds).length = np then F (d :: ds) M2 else none else none
theorem isIns_ok {K : Frg} {ρ : List Addr} {M : Mem} {H : Hp} {d : Dv} {v : V} (r : Rl K ct ρ M H) (hv : DV K ρ H d v) (hc : ct c = some C) (h : isIns c m d M = true) : ∃ a dx vfs, v = .ref a ∧ H a = some (.ins C dx vfs) ∧ vfs.lookup m = none := by
  unfold isIns at h
  split at h
  · split at h
    · rename_i hm
      rw [Bool.and_eq_true] at h
      have e := eq_of_beq h.1
      subst e
      obtain ⟨a, C', dx, vfs, rfl, a1, a2, a3, a4⟩ := r.ins hm hv
      rw [hc] at a2; cases a2
      exact ⟨a, dx, vfs, rfl, a3, a4.look.2 (Option.isNone_iff_eq_none.mp h.2)⟩
    · cases h
  · cases h
theorem se_meth {pl : Sem Bool} (ho : SE X ct o fo) (hc : ct c = some C) (cl : Cls X.K C) (hm : Meth X.K C m f) (G : SF X ct k f fd ps F) (hr : Room k X.A) (hgd : X.A.guards = some []) (hb : Binds X.K fd ps []) (ha : SA X ct (e :: es) fr)
    (hst : starEach (e :: es) X.env = (false, eval e X.env) :: starEach es X.env := by rfl) (hpl : (backTo pos (starEach es X.env)).any (·.1) = false := by rfl)
    (ht : eval (.Call (.Attribute o m apos) (e :: es) [] pos) X.env = (do
      let ov ← eval o X.env
      standAt apos.atName
      let (f, first) ← holding [ov] (getMethod ov m pl)
      callWith pos f first (backTo pos (starEach (e :: es) X.env)) (backToKw pos (keywordEach [] X.env))) := by rfl) :
    SE X ct (.Call (.Attribute o m apos) (e :: es) [] pos) (fMeth c m ps.length F fo fr) := by
  refine ⟨fun pins s σ H Q I w => ?_⟩
  obtain ⟨ρ, M, env, r, hen, d, M', hf, hq⟩ := w
  obtain ⟨y, M1, h1, hf⟩ := bnd_some hf
  split at hf
  · rename_i hi
    obtain ⟨ds, M2, h2, hf⟩ := bnd_some hf
    split at hf
    · rename_i hn
      refine PySem.W.methodCall_KW (pl := pl) (thn (ho.run pins s σ H (fun v H1 => ∃ ρ1, Ext X.K ρ H ρ1 H1 ∧ Rl X.K ct ρ1 M1 H1 ∧ DV X.K ρ1 H1 y v) I ⟨ρ, M, env, r, hen, y, M1, h1, fun ρ1 H1 e1 r1 v dv => ⟨ρ1, e1, r1, dv⟩⟩) fun u s1 z => ?_) ht
      obtain ⟨v, H1, I1, rv, ρ1, e1, r1, dv⟩ := z
      obtain ⟨a, dx, vfs, rfl, a3, a4⟩ := isIns_ok r1 dv hc hi
      obtain rfl : u = Value.ref a := rv
      refine getmeth_ok I1 a3 cl hm a4 ?_
      refine PySem.W.callWith_K (first := [.ref a]) (h₀ := X.base) I.ok.mod.kin hm.kp (thn (ha.run pos pins s1 σ H1 (fun vs H2 => ∃ ρ2, Ext X.K ρ1 H1 ρ2 H2 ∧ Rl X.K ct ρ2 M2 H2 ∧ DVs X.K ρ2 H2 ds vs) I1 ⟨ρ1, M1, env, r1, hen.mono e1, ds, M2, h2, fun ρ2 H2 e2 r2 vs dvs => ⟨ρ2, e2, r2, dvs⟩⟩) fun us s2 z => ?_) hst hpl
      obtain ⟨vs, H2, I2, rvs, ρ2, e2, r2, dvs⟩ := z
      have D2 : DVs X.K ρ2 H2 (y :: ds) (.ref a :: vs) := .cons (dv.mono e2) dvs
      exact ⟨I2.kIn, run_fnG (us := .ref a :: us) (us' := .ref a :: us) G hr hgd I2 (by
        have := hb s2 (.ref a :: us) I2.kIn (by rw [List.append_nil, ← hn, D2.length]; exact congrArg (· + 1) rvs.length.symm)
        rwa [List.append_nil] at this) (.cons (a := V.ref a) rfl rvs) (spF_use hn (e1.trans e2) r2 D2 hf hq)⟩
    · cases hf
  · cases hf
theorem se_meth0 {pl : Sem Bool} (ho : SE X ct o fo) (hc : ct c = some C) (cl : Cls X.K C) (hm : Meth X.K C m f) (G : SF X ct k f fd ps F) (hr : Room k X.A) (hgd : X.A.guards = some []) (hb : Binds X.K fd ps [])
    (ht : eval (.Call (.Attribute o m apos) [] [] pos) X.env = (do
      let ov ← eval o X.env
      standAt apos.atName
      let (f, first) ← holding [ov] (getMethod ov m pl)
      callWith pos f first (backTo pos (starEach [] X.env)) (backToKw pos (keywordEach [] X.env))) := by rfl) :
    SE X ct (.Call (.Attribute o m apos) [] [] pos) (fMeth c m ps.length F fo fNil) := by
  refine ⟨fun pins s σ H Q I w => ?_⟩
  obtain ⟨ρ, M, env, r, hen, d, M', hf, hq⟩ := w
  obtain ⟨y, M1, h1, hf⟩ := bnd_some hf
  split at hf
  · rename_i hi
    obtain ⟨ds, M2, h2, hf⟩ := bnd_some hf
    cases h2
    split at hf
    · rename_i hn
      refine PySem.W.methodCall_KW (pl := pl) (thn (ho.run pins s σ H (fun v H1 => ∃ ρ1, Ext X.K ρ H ρ1 H1 ∧ Rl X.K ct ρ1 _ H1 ∧ DV X.K ρ1 H1 y v) I ⟨ρ, M, env, r, hen, y, _, h1, fun ρ1 H1 e1 r1 v dv => ⟨ρ1, e1, r1, dv⟩⟩) fun u s1 z => ?_) ht
      obtain ⟨v, H1, I1, rv, ρ1, e1, r1, dv⟩ := z
      obtain ⟨a, dx, vfs, rfl, a3, a4⟩ := isIns_ok r1 dv hc hi
      obtain rfl : u = Value.ref a := rv
      refine getmeth_ok I1 a3 cl hm a4 ?_
      exact PySem.W.callWith_K0 (first := [.ref a]) I1.kIn hm.kp (run_fnG (us := [.ref a]) (us' := [.ref a]) G hr hgd I1 (by
        have := hb s1 [.ref a] I1.kIn (by simpa using hn)
        rwa [List.append_nil] at this) (.cons (a := V.ref a) rfl .nil) (spF_use hn e1 r1 (.cons dv .nil) hf hq))
    · cases hf
  · cases hf
/-- C(e, ..) -/
def fMake (c : Nat) (np : Nat) (F : FF) (fr : FA) : FE := fun env M => bnd (fr env M) fun ds M1 => if ds.length + 1 = np then bnd (F (.loc M1.length :: ds) (M1 ++ [.ins c []])) fun d M2 => match d with
    | .non => some (.loc M1.length, M2)
    | _ => none
  else none
theorem se_make (M0 : Mk X.K C f) (hc : ct c = some C) (G : SF X ct k f fd ps F) (hr : Room (k + 1) X.A) (hgd : X.A.guards = some []) (hg : Gl X x) (hm : X.mg x = some (.ref C)) (hb : Binds X.K fd ps []) (ha : SA X ct (e :: es) fr)
    (hdb : (x == ("__debug__" : Str)) = false := by decide) (he : starEach (e :: es) X.env = (false, eval e X.env) :: starEach es X.env := by rfl) (hpl : (backTo pos (starEach es X.env)).any (·.1) = false := by rfl) :
    SE X ct (.Call (.Name x p) (e :: es) [] pos) (fMake c ps.length F fr) := by
  refine ⟨fun pins s σ H Q I w => ?_⟩
  obtain ⟨ρ, M, env, r, hen, d, M', hf, hq⟩ := w
  obtain ⟨ds, M1, h1, hf⟩ := bnd_some hf
  split at hf
  · rename_i hn
    obtain ⟨d0, M2, h2, hf⟩ := bnd_some hf
    split at hf
    · cases hf
      refine wpAny_Call_Name_kw (ld_glob I hg hm ?_ hdb)
      refine PySem.W.callWith_K (h₀ := X.base) I.ok.mod.kin M0.kp (thn (ha.run pos pins s σ H (fun vs H1 => ∃ ρ1, Ext X.K ρ H ρ1 H1 ∧ Rl X.K ct ρ1 M1 H1 ∧ DVs X.K ρ1 H1 ds vs) I ⟨ρ, M, env, r, hen, ds, M1, h1, fun ρ1 H1 e1 r1 vs dvs => ⟨ρ1, e1, r1, dvs⟩⟩) fun us s1 z => ?_) he hpl
      obtain ⟨vs, H1, I1, rv, ρ1, e1, r1, dvs⟩ := z
      refine ⟨I1.kIn, ?_⟩
      have n1 : H1 s1.heap.objs.size = none := I1.hok.fresh (Nat.le_refl _)
      have n2 : H1 (s1.heap.objs.size + 1) = none := I1.hok.fresh (Nat.le_succ _)
      have ne : s1.heap.objs.size + 1 ≠ s1.heap.objs.size := Nat.succ_ne_self _
      have I2 := Inv.made (C := C) I1
      have rA := r1.tup n1 (.own (s1.heap.objs.size + 1))
      have n3 : upd H1 s1.heap.objs.size (.own (s1.heap.objs.size + 1)) (s1.heap.objs.size + 1) = none := by rw [upd_ne ne]; exact n2
      obtain ⟨rB, xB, aB⟩ := rA.new (o := .ins c []) (o' := .ins C s1.heap.objs.size []) n3 ⟨C, _, [], hc, upd_same, FV.nil⟩
      have xx := (Ext.fresh n1).trans xB
      have D2 : DVs X.K (ρ1 ++ [s1.heap.objs.size + 1]) _ (.loc M1.length :: ds) (.ref (s1.heap.objs.size + 1) :: vs) := .cons (.loc aB) (dvs.mono xx)
      have len2 : (Value.ref (s1.heap.objs.size + 1) :: us).length = ps.length := by rw [← hn, dvs.length, ← rv.length.symm]; rfl
      have bt := hb { s1 with heap := (s1.heap.push PySem.W.emptyDict).push (PySem.W.instObj C s1.heap.objs.size) } (.ref (s1.heap.objs.size + 1) :: us) I2.kIn (by rw [List.append_nil]; exact len2)
      rw [List.append_nil] at bt
      refine wpAny_call (make_map (f := f) I1.kIn M0.makes M0.init (beq_iff_eq.mp M0.fn) (codeAny_mono (G.run _ X.stack _ _ ⟨.ref (s1.heap.objs.size + 1) :: us, []⟩ (.ref (s1.heap.objs.size + 1) :: us) (.ref (s1.heap.objs.size + 1) :: vs) (fun v H2 => v = .non ∧ Q (.ref (s1.heap.objs.size + 1)) H2) E0 (hr.make C us [])
        hgd (I2.env0.make C us []) bt (.cons rfl rv) ?_) fun z s' hz => ?_))
      · refine ⟨by rw [← D2.length]; exact hn, _, _, _, rB, D2, _, _, h2, fun ρ3 H3 e3 r3 v hv => ?_⟩
        cases hv
        exact ⟨rfl, hq ρ3 H3 ((e1.trans xx).trans e3) r3 _ (.loc (e3.pre _ _ aB))⟩
      · match z, hz with
        | .ok (.ret u), hz =>
          obtain ⟨v, H', I3, rv3, ev, q3⟩ := I2.after hz
          subst ev
          exact ⟨rv3, ⟨V.ref (s1.heap.objs.size + 1), H', I3, rfl, q3⟩⟩
    · cases hf
  · cases hf
end
end Zl

/-! text Z10 -/
namespace Zl
open PySem L2 PySem.Spec PyProof.Rows

/-- the script, all ints -/
theorem dvs_ints {K : Frg} {ρ : List Addr} {H : Hp} : ∀ ns : List Int, DVs K ρ H (ns.map Dv.int) (ns.map V.int)
  | [] => .nil
  | n :: r => .cons (.int n) (dvs_ints r)
/-- the law's call from the def's mirror -/
theorem law_end {P : Program} {w : World} {K : Frg} {mg mb : Str → Option Value} {ct : Ct} {k : Nat} {fa a : Addr} {fd : FuncData} {x : Str} {F : FF} {s₁ : Shared} {us : List Value} {ns : List Int}
    (KX : K.In s₁.heap) (hns : s₁.heap.Ns mainGlobals mg) (hb : s₁.heap.Ns builtinsNs mb) (hbb : ∀ x : Str, x ≠ "__name__" → mb x = bootBuiltins x) (hlim : s₁.heap.NoLimit) (hg : s₁.gens = #[])
    (ha : s₁.heap.get? a = some { cls := .type "list", data := .seq us.toArray }) (hi : IntsAre us ns) (hl : ns.length ≤ sizeLine) (hr : Room k callerA)
    (G : ∀ base : Heap, K.In base → base.Ns mainGlobals mg → FnG P w K mg base k fa fd [x] (spF K ct F 1)) (hbind : ∀ (s : Shared) (u : Value), BindsTo s fd ⟨[u], []⟩ [(x, u)])
    (hF : ∃ M', F [.rol (ns.map Dv.int)] [] = some (.bl true, M')) :
    codeAny (model P w) callerA (.call (.ref fa) ⟨[.ref a], []⟩) (fun r s' => r = .ok (.ret (.bool true)) ∧ OldK s₁.heap s'.heap ∧ s'.os = s₁.os ∧ AllBare s'.gens) s₁ := by
  obtain ⟨M', hF⟩ := hF
  have rv : Vals (ns.map V.int) us := vals_of_ints hi
  have lenV : ns.length = us.length := by simpa using rv.length
  -- from an abstract heap that holds the script at most, locked
  have core : ∀ H : Hp, (∀ b u, H b = some u → b = a ∧ u = .frz { cls := .type "list", data := .seq us.toArray } (.lst (ns.map V.int)) ∧ K.lookup a = none) → SqF K H a (ns.map V.int) →
      codeAny (model P w) callerA (.call (.ref fa) ⟨[.ref a], []⟩) (fun r s' => r = .ok (.ret (.bool true)) ∧ OldK s₁.heap s'.heap ∧ s'.os = s₁.os ∧ AllBare s'.gens) s₁ := by
    intro H hH hS
    have hok : HOk P w H s₁.heap := fun b u e => by
      obtain ⟨rfl, rfl, _⟩ := hH b u e
      exact ⟨ha, by rw [List.length_map]; exact hl, us, _, rv, ha⟩
    have hide : ∀ {b : Addr} {o : Obj} {es : Array DictEntry} {ep : Nat}, s₁.heap.get? b = some o → o.data = .dict es ep → (hidT s₁.heap H).get? b = some o := fun {b o es ep} e d => by
      refine hidT_get e ?_
      cases q : H b with
      | none => rfl
      | some u =>
        obtain ⟨rfl, _, _⟩ := hH b u q
        rw [ha] at e; cases e; cases d
    have nsK : ∀ {b : Addr} {m : Str → Option Value}, s₁.heap.Ns b m → (hidT s₁.heap H).Ns b m := fun ⟨o, es, ep, e, d, z⟩ => ⟨o, es, ep, hide e d, d, z⟩
    have kB : K.In (hidT s₁.heap H) := fun b o e => hidT_get (KX b o e) (by
      cases q : H b with
      | none => rfl
      | some u =>
        obtain ⟨rfl, _, z⟩ := hH b u q
        rw [z] at e; cases e)
    have e0 : Env0 P w K mg (hidT s₁.heap H) callerA [] s₁ H :=
      ⟨rfl, ⟨kB, nsK hns, ⟨mb, nsK hb, hbb⟩, let ⟨mc, h1, h2⟩ := hlim; ⟨mc, nsK h1, h2⟩⟩, fun b o e => of_hidT e, Nat.le_of_eq (hidT_size _ _), trivial, fun b hb => absurd (show b ∈ ([] : List Addr) from hb) (fun y => nomatch y), hok, AllBare.of_eq hg⟩
    have sp : spF K ct F 1 [.ref a] H (fun v _ => v = .bl true) E0 := ⟨rfl, [], [], _, ⟨rfl, List.nodup_nil, fun n o h => by simp at h⟩, .cons (.rol hS (dvs_ints ns)) .nil, _, _, hF, fun ρ' H' _ _ v hv => by cases hv; rfl⟩
    refine codeAny_mono ((G _ kB (nsK hns)).run callerA [] s₁ H ⟨[.ref a], []⟩ [.ref a] [.ref a] _ _ hr rfl e0 (hbind s₁ (.ref a)) (.cons rfl .nil) sp) fun z s' h => ?_
    match z, h with
    | .ok (.ret u), h =>
      obtain ⟨v, H', os, bare, un, hok', r', q⟩ := h
      have q' : v = .bl true := q
      subst q'
      obtain rfl : u = Value.bool true := r'
      refine ⟨rfl, OldK.of_keep fun b o e => ?_, os, bare⟩
      cases z : H b with
      | none => exact un.keep b o e z (fun y => absurd (show b ∈ ([] : List Addr) from y) (fun y => nomatch y)) (fun y => nomatch y)
      | some u =>
        obtain ⟨rfl, rfl, _⟩ := hH b u z
        rw [ha] at e
        rw [← e]
        exact (hok' _ _ (un.frzs _ _ _ z)).1
  cases hk : K.lookup a with
  | some o =>
    have e := KX a o hk
    rw [ha] at e
    cases e
    refine core (fun _ => none) (fun b u z => by cases z) (.inr ⟨fun H' => .inr ⟨_, us.toArray, _, hk, rfl, rfl, rfl, by rw [List.size_toArray, ← lenV]; exact hl, by simpa using rv⟩, _, hk, rfl⟩)
  | none =>
    refine core (fun b => if b = a then some (.frz { cls := .type "list", data := .seq us.toArray } (.lst (ns.map V.int))) else none) (fun b u z => ?_) (.inl ⟨_, if_pos rfl⟩)
    by_cases hb : b = a
    · rw [if_pos hb] at z; cases z
      exact ⟨hb, rfl, hk⟩
    · rw [if_neg hb] at z; cases z
/-- the goal that k_head leaves -/
theorem walk_end {l : PySem.W.OpenLaw} {k : Nat} {q : Program} {loose : List Str} {XP : (Str → Option Value) → Heap → Prop} {YP : World → Heap → Prop} {d : DefRec} {K : Params → Frg} {x : Str} {F : FF}
    (hn : l.most = some 63) (hdf : d.params.defaults = []) (hr : Room k callerA) (hY : ∀ (w : World) (h : Heap), YP w h → (K w.params).In h)
    (T : ∀ (w : World) (mg : Str → Option Value) (fa : Addr) (h : Heap), (K w.params).In h → h.Ns mainGlobals mg → mg d.name = some (.ref fa) →
      ∃ (ct : Ct) (fd : FuncData), (∀ (s : Shared) (u : Value), BindsTo s fd ⟨[u], []⟩ [(x, u)]) ∧ ∀ base : Heap, (K w.params).In base → base.Ns mainGlobals mg → FnG l.prog w (K w.params) mg base k fa fd [x] (spF (K w.params) ct F 1))
    (hF : ∀ ns : List Int, ns.length ≤ 63 → ∃ M', F [.rol (ns.map Dv.int)] [] = some (.bl true, M')) :
    PySem.W.WalkO q loose XP YP l.row.toRowW d [] (fun f vs => PySem.call f vs) := by
  refine Att.attach_call hn hdf fun w s₀ s₁ mg mb fa o pm cd doc a vs ns G Y ho hd hcd hmg hobj hints hlen hg => ?_
  have KX := hY w _ Y
  obtain ⟨ct, fd, hb, hG⟩ := T w mg fa _ KX G.T.g hmg
  exact law_end KX G.T.g G.T.b G.T.builtins G.T.nolimit hg hobj hints (Nat.le_trans hlen (by decide)) hr hG hb (hF ns hlen)
end Zl

/-! text Z11 -/
namespace Zl
open PySem L2 PySem.Spec PyProof.Rows
open AutoSeq1 (wpAny_loadPart')

/-! ## enumerate -/
theorem enumerate_newT (l : Addr) (items : Array Value) (n : Nat) (dct : Option Addr) (sl : Array (Option Value)) :
    Meets (Builtin.«enumerate.__new__» ⟨[.type "enumerate", .ref l], []⟩) (fun _ R s => s.heap.get? l = some { cls := .type "tuple", dict := dct, data := .seq items n, slots := sl } ∧
      R (.ok (.ret (.ref (s.heap.push { cls := .type "tuple_iterator", data := .fields #[.ref l, .int 0 0] }).objs.size)))
        { s with heap := (s.heap.push { cls := .type "tuple_iterator", data := .fields #[.ref l, .int 0 0] }).push { cls := .type "enumerate", data := .fields #[.none, .bool false, .ref s.heap.objs.size, rawInt 0, .none, .none] } }) :=
  .of_wp fun prog w A R s h => by
    obtain ⟨hp, g, d, tk, os⟩ := s
    obtain ⟨hl, h⟩ := h
    have hsub := sub_enumerate
    have hT : Heap.IsTuple (Shared.heap ⟨hp, g, d, tk, os⟩) l items := ⟨_, hl, rfl, n, rfl⟩
    wp_walk using wpAny_loadPart' hl
    refine wpAny_stack_any fun st => wpAny_pure ?_
    split
    · rename_i c _ _ _ _ _
      cases (c == Value.type "enumerate")
      · wp_walk using wpAny_loadPart' hl, wpAny_pyIter_tuple hT
        exact ⟨_, rfl, h⟩
      · wp_walk using wpAny_loadPart' hl, wpAny_pyIter_tuple hT
        exact ⟨_, rfl, h⟩
    · wp_walk using wpAny_loadPart' hl, wpAny_pyIter_tuple hT
      exact ⟨_, rfl, h⟩
theorem call_enumT {prog : Program} {w : World} {A : Around} {E : Value → Shared → Prop} {s : Shared} {l : Addr} {items : Array Value} {Q : Value → Shared → Prop} (hL : s.heap.IsTuple l items)
    (h : ∀ h', IsEnum h' (s.heap.objs.size + 1) s.heap.objs.size 0 .none → h'.IsTupleIter s.heap.objs.size l 0 → (∀ b o, s.heap.get? b = some o → h'.get? b = some o) → Q (.ref (s.heap.objs.size + 1)) { s with heap := h' }) :
    wpAny (model prog w) A (call (.type "enumerate") [.ref l]) Q E s := by
  obtain ⟨⟨c, dct, dt, sl⟩, hl, hc, n, hd⟩ := hL
  replace hc : c = .type "tuple" := hc
  replace hd : dt = .seq items n := hd
  subst hc hd
  refine callType_new F.called_enumerate (by decide) (F.typeCall_enumerate_1 _) (F.newCall_enumerate_1 _) (fun obj => F.args_object_init_2 obj _) F.entry_enumerate_new (enumerate_newT l items n dct sl) ⟨hl, ?_⟩
  have hz : (s.heap.push { cls := .type "tuple_iterator", data := .fields #[.ref l, .int 0 0] }).objs.size = s.heap.objs.size + 1 := Heap.size_push ..
  show _ ∧ _
  rw [hz]
  have he : IsEnum ((s.heap.push { cls := .type "tuple_iterator", data := .fields #[.ref l, .int 0 0] }).push
      { cls := .type "enumerate", data := .fields #[.none, .bool false, .ref s.heap.objs.size, rawInt 0, .none, .none] }) (s.heap.objs.size + 1) s.heap.objs.size 0 .none := by
    have q := Heap.get?_push_size (s.heap.push { cls := .type "tuple_iterator", data := .fields #[.ref l, .int 0 0] })
      (o := { cls := .type "enumerate", data := .fields #[.none, .bool false, .ref s.heap.objs.size, rawInt 0, .none, .none] }) rfl
    rwa [hz] at q
  exact ⟨⟨_, he, rfl⟩, h _ he ⟨_, Heap.get?_push_of_some _ (Heap.get?_push_size _ rfl), rfl, rfl⟩ fun b o x => Heap.get?_push_of_some _ (Heap.get?_push_of_some _ x)⟩
/-- the tuple at a, each item in a new pair -/
def IteT (K : Frg) (a : Addr) : It :=
  ⟨fun i H => ∃ (xs : List V) (x : V), SqT K H a xs ∧ xs[i]? = some x, fun i H v H' => ∃ T x, v = .ref T ∧ H T = none ∧ H' = upd H T (.tup [.int (i : Nat), x]) ∧ ∀ xs, SqT K H a xs → xs[i]? = some x, fun i H => ∃ xs : List V, SqT K H a xs ∧ xs.length = i⟩
theorem turn_enumT {P : Program} {w : World} {K : Frg} {elts : List Expr} {kk : Nat} {tpos : Pos} (a e it : Addr) (hai : a ≠ it) (hea : e ≠ a) :
    Turn P w K (.Tuple elts kk tpos) (IteT K a) [e, it] e (fun i h => (∃ old, IsEnum h e it ((i : Nat) : Int) old) ∧ h.IsTupleIter it a i ∧ e ≠ it) where
  mem := by simp
  obj := fun i h st b hb => by
    obtain ⟨⟨old, he⟩, ⟨o, ho, hc, hd⟩, _⟩ := st
    rcases (show b = e ∨ b = it by simpa using hb) with rfl | rfl
    · exact ⟨_, he, fun v q => nomatch q⟩
    · exact ⟨o, ho, fun v q => by rw [hd] at q; cases q⟩
  keep := fun i h h' st k => let ⟨⟨old, he⟩, hi, hne⟩ := st; ⟨⟨old, k e (by simp) _ he⟩, hi.at fun o q => k it (by simp) o q, hne⟩
  item := by
    intro X hP hw hK hc i pins s σ H E I hf st hg
    subst hP hw hK
    obtain ⟨⟨old, he⟩, hit, hne⟩ := st
    obtain ⟨xs, x, hq, hx⟩ := hg
    obtain ⟨its, rv, p, hz⟩ := I.tuple hq
    obtain ⟨u, hu, ru⟩ := rv.get hx
    have hil : i < its.toArray.size := by simpa using (List.getElem?_eq_some_iff.mp hu).1
    have hel : e < s.heap.objs.size := Heap.lt_size he
    have hitl : it < s.heap.objs.size := by obtain ⟨_, q, _⟩ := hit; exact Heap.lt_size q
    refine wpAny_pyNext_enum_itemD (Draws.tuple (A := X.A.in1) (I.ok.hd hc) it a hai its.toArray) he ⟨hit, p⟩ hil hne (by simp [hne, hea]) fun y h' tk hy ho st' hT hsz hk => ?_
    have ey : y = u := by
      have : its[i]? = some y := by simpa using hy
      rw [hu] at this; exact (Option.some.inj this).symm
    subst ey
    refine ⟨_, rfl, wpAny_letOwnedTupleGo_enum (s := { s with heap := h', toks := tk + 1 }) ho fun h'' he' sb => ?_⟩
    have hT2 : h''.get? s.heap.objs.size = some { cls := .type "tuple", data := .seq #[.int i tk, y] } := (sb.2 _ (Nat.ne_of_gt hel)).trans hT
    have new : ObjOk X.prog X.w (upd H s.heap.objs.size (.tup [.int (i : Nat), x])) h'' s.heap.objs.size (.tup [.int (i : Nat), x]) :=
      ⟨by show 2 ≤ sizeLine; decide, [.int i tk, y], .cons ⟨_, rfl⟩ (.cons ru .nil), ⟨_, hT2, rfl, _, rfl⟩⟩
    have I1 : Inv X pins σ (upd H s.heap.objs.size (.tup [.int (i : Nat), x])) { s with heap := h'', toks := tk + 1 } :=
      I.turnedNew (ch := [e, it]) (fun b ob hb q => (sb.2 b (fun z => hb (by simp [z]))).trans (hk b ob (fun z => hb (by simp [z])) (fun z => hb (by simp [z])) q)) hf (Nat.le_refl _) new
    refine ⟨V.ref s.heap.objs.size, _, I1, rfl, ⟨_, x, rfl, I.hok.fresh (Nat.le_refl _), rfl, fun ys hy => by rw [I.tuple_inj hy hq]; exact hx⟩, ⟨⟨y, by rw [Int.natCast_add]; exact he'⟩, st'.1.at fun o q => (sb.2 it (Ne.symm hne)).trans q, hne⟩, fun b hb => ?_⟩
    have hb' : b < s.heap.objs.size := by
      rcases (show b = e ∨ b = it by simpa using hb) with rfl | rfl
      · exact hel
      · exact hitl
    rw [upd_ne (Nat.ne_of_lt hb')]
    exact (hf b hb).1
  done := by
    intro X hP hw hK hc i pins s σ H E I hf st hg
    subst hP hw hK
    obtain ⟨⟨old, he⟩, hit, hne⟩ := st
    obtain ⟨xs, hq, hx⟩ := hg
    obtain ⟨its, rv, p, hz⟩ := I.tuple hq
    obtain ⟨f0, f1, f2, f3, f4, f5⟩ := hf it (by simp)
    have hl : its.toArray.size = i := by rw [List.size_toArray, ← rv.length, hx]
    subst hl
    exact wpAny_pyNext_enum_endD (Draws.tuple (A := X.A.in1) (I.ok.hd hc) it a hai its.toArray) he ⟨hit, p⟩ fun h' eb => ⟨rfl, I.turned (t' := s.toks) (fun b o hb q => eb b o hb q) f0 f1 f3 f4 f5⟩
  self := fun A i s Q E st h => let ⟨⟨_, he⟩, _⟩ := st; wpAny_pyIter_enum he h
section
variable {X : Cx} {ct : Ct} {e e2 o : Expr} {es : List Expr} {elts : List Expr} {kk : Nat} {p pos tpos apos cpos : Pos} {fe f2 fo : FE} {fr : FA}
theorem pi_enumT {ta : TE} (hg : Gl X "enumerate") (hm : X.mg "enumerate" = none) (ha : PE X e ta) (hs : starEach [e] X.env = [(false, eval e X.env)] := by rfl) :
    PI X (.Tuple elts kk tpos) (.Call (.Name "enumerate" p) [e] [] pos) (fun σ H R => ta σ H fun v H1 => ∃ a xs, v = .ref a ∧ SqT X.K H1 a xs ∧ R (IteT X.K a) H1) := by
  refine ⟨fun pins s σ H R I h => ?_⟩
  refine Call_ (ld_blt I hg hm boot_enumerate (PyProof.Rows.callWith_type1 (args_cons (thn (ha.run pins s σ H _ I h) fun u s1 z => args_nil ?_) hs) hs rfl))
  obtain ⟨v, H1, I1, rv, a, xs, rfl, hq, q⟩ := z
  cases rv
  obtain ⟨its, rv, p', hz⟩ := I1.tuple hq
  have hlt : a < s1.heap.objs.size := p'.lt
  refine call_enumT p' fun h' he hit hk => wpAny_pyIter_enum he ?_
  have I2 : Inv X pins σ H1 { s1 with heap := h' } := I1.kept (t' := s1.toks) hk
  refine ⟨s1.heap.objs.size + 1, [s1.heap.objs.size + 1, s1.heap.objs.size], _, _, H1, rfl, I2, turn_enumT a _ _ (Nat.ne_of_lt hlt) (fun z => absurd (z ▸ hlt : s1.heap.objs.size + 1 < s1.heap.objs.size) (by omega)), ⟨⟨.none, he⟩, hit, Nat.succ_ne_self _⟩, fun b hb => ?_, q⟩
  have hle : s1.heap.objs.size ≤ b := by
    rcases (show b = s1.heap.objs.size + 1 ∨ b = s1.heap.objs.size by simpa using hb) with rfl | rfl
    · exact Nat.le_succ _
    · exact Nat.le_refl _
  exact I1.fpOk hle (I1.hok.fresh hle)
def pairs (xs : List Dv) (i : Nat) : Option Dv := xs[i]?.map fun x => .pr [.int (i : Nat), x]
def srcE (M : Mem) : Dv → Option Src
  | .tup xs => some ⟨xs.length, fun i _ => if i ≤ xs.length then some (pairs xs i) else none⟩
  | .loc n => match M[n]? with
    | some (.lst xs) => some ⟨xs.length, fun i M => match M[n]? with
      | some (.lst xs) => some (pairs xs i)
      | _ => none⟩
    | _ => none
  | _ => none
def fEnum (f : FE) : FI := fun env M => bnd (f env M) fun d M1 => match srcE M1 d with
  | some s => some (s, M1)
  | none => none
theorem feeds_enumT {K : Frg} {ρ0 : List Addr} {H0 : Hp} {a : Addr} {xs : List Dv} {vs : List V} (hs : TupD K H0 a vs) (hd : DVs K ρ0 H0 xs vs) : Feeds K ct ρ0 H0 (IteT K a) (fun i _ => if i ≤ xs.length then some (pairs xs i) else none) := by
  intro i ρ M H x r
  dsimp only
  by_cases hi : i ≤ xs.length
  · rw [if_pos hi]
    unfold pairs
    cases q : xs[i]? with
    | none => exact ⟨vs, (hs.mono x).sq, by rw [← hd.length]; exact Nat.le_antisymm (List.getElem?_eq_none_iff.mp q) hi⟩
    | some d =>
      obtain ⟨v, h1, h2⟩ := hd.get q
      refine ⟨⟨vs, v, (hs.mono x).sq, h1⟩, fun y H' hy => ?_⟩
      obtain ⟨T, z, rfl, hT, rfl, hy⟩ := hy
      have := hy vs (hs.mono x).sq
      rw [h1] at this; cases this
      exact ⟨Ext.fresh hT, r.tup hT _, .pr (SqT.of upd_same) (.cons (.int _) (.cons ((h2.mono x).mono (Ext.fresh hT)) .nil))⟩
  · rw [if_neg hi]; trivial
theorem feeds_enumL {K : Frg} {ρ0 : List Addr} {H0 : Hp} {a : Addr} {n : Nat} (hn : ρ0[n]? = some a) : Feeds K ct ρ0 H0 (Ite K a) (fun i M => match M[n]? with
      | some (.lst xs) => some (pairs xs i)
      | _ => none) := by
  intro i ρ M H x r
  dsimp only
  cases hm : M[n]? with
  | none => trivial
  | some o =>
    cases o with
    | ins c fs => trivial
    | dct kvs => trivial
    | dcn kvs => trivial
    | st xs => trivial
    | sk xs => trivial
    | lst xs =>
      obtain ⟨b, vs, eb, b1, b2, b3⟩ := r.lst hm (.loc (x.pre n a hn))
      cases eb
      show (match some (pairs xs i) with | some (some d) => _ | some none => _ | none => _)
      unfold pairs
      cases q : xs[i]? with
      | none => exact ⟨vs, SqL.of b2, by rw [← b3.length]; exact List.getElem?_eq_none_iff.mp q⟩
      | some d =>
        obtain ⟨v, h1, h2⟩ := b3.get q
        refine ⟨⟨vs, v, SqL.of b2, h1⟩, fun y H' hy => ?_⟩
        obtain ⟨T, z, rfl, hT, rfl, hy⟩ := hy
        have := hy vs (SqL.of b2)
        rw [h1] at this; cases this
        exact ⟨Ext.fresh hT, r.tup hT _, .pr (SqT.of upd_same) (.cons (.int _) (.cons (h2.mono (Ext.fresh hT)) .nil))⟩
theorem si_enum (hg : Gl X "enumerate") (hm : X.mg "enumerate" = none) (h : SE X ct e fe) (hs : starEach [e] X.env = [(false, eval e X.env)] := by rfl) : SI X ct (.Tuple elts kk tpos) (.Call (.Name "enumerate" p) [e] [] pos) (fEnum fe) := by
  refine PI.imp (PI.or (pi_enum hg hm (sa_cons h sa_nil hs) hs) (pi_enumT hg hm h hs)) fun σ H R ⟨ρ, M, env, r, he, src, M', hf, hq⟩ => ?_
  obtain ⟨d, M1, h1, hf⟩ := bnd_some hf
  split at hf
  · rename_i s0 hs
    cases hf
    unfold srcE at hs
    split at hs
    · cases hs
      exact .inr ⟨ρ, M, env, r, he, _, _, h1, fun ρ1 H1 e1 r1 v dv => by
        cases dv with
        | tup hs hd => exact ⟨_, _, rfl, hs.sq, hq ρ1 H1 e1 r1 _ (feeds_enumT hs hd)⟩⟩
    · split at hs
      · rename_i hm
        cases hs
        refine .inl ⟨ρ, M, env, r, he, [_], _, by show bnd (fe env M) _ = _; rw [h1]; rfl, fun ρ1 H1 e1 r1 vs dvs => ?_⟩
        obtain ⟨v, rfl, dv⟩ := dvs_one dvs
        obtain ⟨a, ws, rfl, a1, a2, a3⟩ := r1.lst hm dv
        exact ⟨_, _, rfl, SqL.of a2, hq ρ1 H1 e1 r1 _ (feeds_enumL a1)⟩
      · cases hs
    · cases hs
  · cases hf
/-! ## tuple(range(..)), list(range(..)) -/
def rgD (a b : Int) : List Dv := (List.range (b - a).toNat).map fun i => .int (a + (i : Nat))
theorem dvs_rg {K : Frg} {ρ : List Addr} {H : Hp} (a b : Int) : DVs K ρ H (rgD a b) (rgV a b) := by
  unfold rgD rgV
  induction List.range (b - a).toNat with
  | nil => exact .nil
  | cons x r ih => exact .cons (.int _) ih
def rgOk (a b : Int) : Bool := decide (-(2 ^ 62) ≤ a ∧ a < 2 ^ 62 ∧ -(2 ^ 62) ≤ b ∧ b < 2 ^ 62 ∧ (b - a).toNat ≤ 2 ^ 24)
theorem rgOk_of {a b : Int} (h : rgOk a b = true) : RgOk a b := by
  have := of_decide_eq_true h
  exact this
/-- an expression that makes a range -/
abbrev FR := En → Mem → Option ((Int × Int) × Mem)
def tRz (K : Frg) (ct : Ct) (f : FR) : L2.St → Hp → (Int → Int → Hp → Prop) → Prop := fun σ H Q => ∃ ρ M env, Rl K ct ρ M H ∧ EnOk K ρ H env σ ∧ ∃ q M', f env M = some (q, M') ∧ Aft K ct ρ H M' fun _ H' => Q q.1 q.2 H'
abbrev SR (X : Cx) (ct : Ct) (e : Expr) (f : FR) : Prop := PRg X e (tRz X.K ct f)
def fRg1 (f : FE) : FR := fun env M => bnd (f env M) fun d M1 => match d with
  | .int n => some ((0, n), M1)
  | _ => none
def fRg2 (f g : FE) : FR := fun env M => bnd (f env M) fun d M1 => bnd (g env M1) fun d2 M2 => match d, d2 with
  | .int i, .int j => some ((i, j), M2)
  | _, _ => none
theorem sr_1 (hg : Gl X "range") (hm : X.mg "range" = none) (ha : SE X ct e fe) (na : starEach [e] X.env = (false, eval e X.env) :: starEach [] X.env := by rfl) : SR X ct (.Call (.Name "range" p) [e] [] pos) (fRg1 fe) := by
  intro pins s σ H Q I w
  refine prg_1 hg hm ha na pins s σ H Q I ?_
  obtain ⟨ρ, M, env, r, he, q, M', hf, hq⟩ := w
  obtain ⟨d, M1, h1, hf⟩ := bnd_some hf
  refine ⟨ρ, M, env, r, he, d, M1, h1, fun ρ1 H1 e1 r1 v dv => ?_⟩
  split at hf
  · cases hf; cases dv
    exact ⟨_, rfl, hq ρ1 H1 e1 r1⟩
  · cases hf
theorem sr_2 (hg : Gl X "range") (hm : X.mg "range" = none) (ha : SE X ct e fe) (hb : SE X ct e2 f2) (na : starEach [e, e2] X.env = (false, eval e X.env) :: starEach [e2] X.env := by rfl) (nb : starEach [e2] X.env = (false, eval e2 X.env) :: starEach [] X.env := by rfl) (hpl : (backTo pos (starEach [e2] X.env)).any (·.1) = false := by rfl) : SR X ct (.Call (.Name "range" p) [e, e2] [] pos) (fRg2 fe f2) := by
  intro pins s σ H Q I w
  refine prg_2 hg hm ha hb na nb hpl pins s σ H Q I ?_
  obtain ⟨ρ, M, env, r, he, q, M', hf, hq⟩ := w
  obtain ⟨d, M1, h1, hf⟩ := bnd_some hf
  obtain ⟨d2, M2, h2, hf⟩ := bnd_some hf
  refine ⟨ρ, M, env, r, he, d, M1, h1, fun ρ1 H1 e1 r1 v dv => ⟨ρ1, M1, env, r1, he.mono e1, d2, M2, h2, fun ρ2 H2 e2 r2 u du => ?_⟩⟩
  split at hf
  · cases hf; cases dv; cases du
    exact ⟨_, _, rfl, rfl, hq ρ2 H2 (e1.trans e2) r2⟩
  · cases hf
def fTupR (f : FR) : FE := fun env M => bnd (f env M) fun q M1 => if rgOk q.1 q.2 then some (.tup (rgD q.1 q.2), M1) else none
def fLstR (f : FR) : FE := fun env M => bnd (f env M) fun q M1 => if rgOk q.1 q.2 then some (.loc M1.length, M1 ++ [.lst (rgD q.1 q.2)]) else none
theorem pe_tupRF {te : L2.St → Hp → (Int → Int → Hp → Prop) → Prop} (hc : X.calm = true) (hg : Gl X "tuple") (hm : X.mg "tuple" = none) (he : PRg X e te) (na : starEach [e] X.env = (false, eval e X.env) :: starEach [] X.env := by rfl) :
    PE X (.Call (.Name "tuple" p) [e] [] pos) (fun σ H Q => te σ H fun a b H1 => RgOk a b ∧ ∀ q o, H1 q = none → o.dict = none → Q (.ref q) (upd H1 q (.frz o (.tup (rgV a b))))) := by
  refine ⟨fun pins s σ H Q I h => ?_⟩
  refine Call_ (ld_blt I hg hm boot_tuple (PyProof.Rows.callWith_type1 (args_cons (thn (he pins s σ H _ I h) fun x s1 z => args_nil ?_) na) na))
  obtain ⟨r, a, b, t, u, v, H1, rfl, hr, I1, ok, q⟩ := z
  obtain ⟨b1, b2, b3, b4, b5⟩ := ok
  refine call_tuple_range (n := (b - a).toNat) (I1.ok.hd hc) hr (small_one b1 b2 b3 b4) (rangeSize_nat a b) b5 fun h' tk acc hk hi => ?_
  have I2 : Inv X pins σ H1 { s1 with heap := h', toks := tk } := I1.kept hk
  have Z := layT (tk := tk) I2 (vals_rg hi) (by rw [rgV_length, sizeLine_eq]; omega)
  rw [Array.toArray_toList] at Z
  exact ⟨V.ref h'.objs.size, _, Z, rfl, q _ _ (I2.hok.fresh (Nat.le_refl _)) rfl⟩
theorem se_tupR {fq : FR} (hc : X.calm = true) (hg : Gl X "tuple") (hm : X.mg "tuple" = none) (he : SR X ct e fq) (na : starEach [e] X.env = (false, eval e X.env) :: starEach [] X.env := by rfl) : SE X ct (.Call (.Name "tuple" p) [e] [] pos) (fTupR fq) :=
  PE.imp (pe_tupRF hc hg hm he na) fun σ H Q ⟨ρ, M, env, r, hen, d, M', hf, hq⟩ => by
    obtain ⟨q, M1, h1, hf⟩ := bnd_some hf
    split at hf
    · rename_i hk
      cases hf
      exact ⟨ρ, M, env, r, hen, q, _, h1, fun ρ1 H1 e1 r1 => ⟨rgOk_of hk, fun p o hp ho => hq ρ1 _ (e1.trans (Ext.fresh hp)) (r1.tup hp _) _ (.tup (TupD.new ho) (dvs_rg _ _))⟩⟩
    · cases hf
theorem se_lstR {fq : FR} (hc : X.calm = true) (hg : Gl X "list") (hm : X.mg "list" = none) (he : SR X ct e fq) (na : starEach [e] X.env = (false, eval e X.env) :: starEach [] X.env := by rfl) : SE X ct (.Call (.Name "list" p) [e] [] pos) (fLstR fq) :=
  PE.imp (pe_listRg hc hg hm he na) fun σ H Q ⟨ρ, M, env, r, hen, d, M', hf, hq⟩ => by
    obtain ⟨q, M1, h1, hf⟩ := bnd_some hf
    split at hf
    · rename_i hk
      cases hf
      refine ⟨ρ, M, env, r, hen, q, _, h1, fun ρ1 H1 e1 r1 => ⟨rgOk_of hk, fun p hp => ?_⟩⟩
      obtain ⟨r2, e2, h2⟩ := r1.newL hp (dvs_rg q.1 q.2)
      exact hq _ _ (e1.trans e2) r2 _ (.loc h2)
    · cases hf
/-! ## two roads by what a value is -/
theorem PE.or {t t' : TE} (h : PE X e t) (h' : PE X e t') : PE X e (fun σ H Q => t σ H Q ∨ t' σ H Q) := ⟨fun pins s σ H Q I w => w.elim (h.run pins s σ H Q I) (h'.run pins s σ H Q I)⟩
theorem PG.or {t t' : TG} (h : PG X e t) (h' : PG X e t') : PG X e (fun v σ H Q => t v σ H Q ∨ t' v σ H Q) := ⟨fun pins s σ H v u Q I r w => w.elim (h.run pins s σ H v u Q I r) (h'.run pins s σ H v u Q I r)⟩
/-- f where it serves, else g -/
def fOr (f g : FE) : FE := fun env M => match f env M with
  | some y => some y
  | none => g env M
theorem se_or2 (h : SE X ct e fe) (h' : SE X ct e f2) : SE X ct e (fOr fe f2) :=
  PE.imp (PE.or h h') fun σ H Q ⟨ρ, M, env, r, he, d, M', hf, hq⟩ => by
    unfold fOr at hf
    split at hf
    · rename_i y hy
      cases hf
      exact .inl ⟨ρ, M, env, r, he, d, M', hy, hq⟩
    · exact .inr ⟨ρ, M, env, r, he, d, M', hf, hq⟩
def gOr (f g : FG) : FG := fun d env M => match f d env M with
  | some y => some y
  | none => g d env M
theorem sg_or2 {ws : List Nat} {f g : FG} (h : SG X ct ws e f) (h' : SG X ct ws e g) : SG X ct ws e (gOr f g) :=
  PG.imp (PG.or h h') fun v σ H Q ⟨ρ, M, env, d, r, he, dv, env', M', hf, hq⟩ => by
    unfold gOr at hf
    split at hf
    · rename_i y hy
      cases hf
      exact .inl ⟨ρ, M, env, d, r, he, dv, env', M', hy, hq⟩
    · exact .inr ⟨ρ, M, env, d, r, he, dv, env', M', hf, hq⟩
end
end Zl

/-! text Z12 -/
namespace Zl
open PySem L2 PySem.Spec PyProof.Rows
section
variable {X : Cx} {ct : Ct} {pos : Pos}
theorem sv_l {x : Str} (i : Nat) (hN : X.N[i]? = some x := by rfl) (hv : X.env.scope.names.lookup x = some .local := by exact rfl) (hd : (x == ("__debug__" : Str)) = false := by decide) (hcd : (x == ("__classdict__" : Str)) = false := by decide) : SE X ct (.Name x pos) (fV i) := se_var hN (.inl hv) hd hcd
theorem sv_c {x : Str} (i : Nat) (hN : X.N[i]? = some x := by rfl) (hv : X.env.scope.names.lookup x = some .cell := by exact rfl) (hd : (x == ("__debug__" : Str)) = false := by decide) (hcd : (x == ("__classdict__" : Str)) = false := by decide) : SE X ct (.Name x pos) (fV i) := se_var hN (.inr (.inl hv)) hd hcd
theorem sv_f {x : Str} (i : Nat) (hN : X.N[i]? = some x := by rfl) (hv : Vis X.env.scope x := by first | exact Or.inr (Or.inl rfl) | exact Or.inr (Or.inr rfl)) (hd : (x == ("__debug__" : Str)) = false := by decide) (hcd : (x == ("__classdict__" : Str)) = false := by decide) : SE X ct (.Name x pos) (fV i) := se_var hN hv hd hcd
theorem hu65 {k : Nat} {A : Around} (r : Room k A) : A.units + 65 < cLine := by have := r.un; omega
/-- a constant of the module -/
def GlobIs (K : Frg) (mg : Str → Option Value) (x : Str) (d : Dv) : Prop := ∃ (v : V) (u : Value), mg x = some u ∧ RelV v u ∧ ∀ ρ H, DV K ρ H d v
theorem se_globIs {x : Str} {d : Dv} (hg : Gl X x) (g : GlobIs X.K X.mg x d) (hd : (x == ("__debug__" : Str)) = false := by decide) : SE X ct (.Name x pos) (fK d) := by
  obtain ⟨v, u, h1, h2, h3⟩ := g
  exact se_glob hg h1 h2 h3 hd
def lcountD : FM
  | .loc n, [x], M => match M[n]? with
    | some (.lst ys) => if flatD x && ys.all flatD then some (.int (ys.countP fun y => eqF y x : Nat), M) else none
    | _ => none
  | _, _, _ => none
theorem sm_lcount : SM X ct "list.count" lcountD := by
  intro pins s σ H x xs v us Q I rx rxs w
  obtain ⟨ρ, M, d, ds, r, dx, dxs, z, M', hf, hq⟩ := w
  unfold lcountD at hf
  split at hf
  · split at hf
    · rename_i ys hm
      obtain ⟨a, vs, rfl, a1, a2, a3⟩ := r.lst hm dx
      obtain ⟨y, rfl, dy⟩ := dvs_one dxs
      obtain ⟨u, rfl, ru⟩ := vals1 rxs
      split at hf
      · rename_i hl
        rw [Bool.and_eq_true] at hl
        cases hf
        cases rx
        obtain ⟨ws, rw', ⟨⟨cls, dd, data, sl⟩, n, ho, hc, hc2, hd'⟩, hz⟩ := I.list (SqL.of a2)
        simp only at hc hc2 hd'
        subst hc hc2 hd'
        refine call_meets PySem.F.slot_list_count ⟨_, ho, rfl⟩ PySem.F.entry_list_count (PySem.F.args_list_count_2 _ _)
          (SeqAt.list_countAt _ ws.toArray n none sl u (eqU y)) ⟨ho, fun c hc => mem_eqAt ru (by rw [flat_of dy]; exact hl.1) rw' (by rw [flats_of a3]; exact hl.2) c (by simpa using hc), ?_⟩
        refine ⟨V.int (ws.countP (eqU y) : Nat), H, I.tok _, ⟨s.toks, rfl⟩, ?_⟩
        rw [count_eqU dy hl.1 a3 rw' hl.2]
        exact hq ρ H .refl r _ (.int _)
      · cases hf
    · cases hf
  · cases hf
end
end Zl

/-! text Z14 -/
namespace Zl
open PySem L2 PySem.Spec PyProof.Rows

/-! ## zip of two tuples, of two lists -/
def zipAt (xs ys : List Dv) (i : Nat) : Option Dv := match xs[i]?, ys[i]? with
  | some x, some y => some (.pr [x, y])
  | _, _ => none
def srcZ (M : Mem) : Dv → Dv → Option Src
  | .tup xs, .tup ys => some ⟨min xs.length ys.length, fun i _ => some (zipAt xs ys i)⟩
  | .loc m, .loc n => match M[m]?, M[n]? with
    | some (.lst xs), some (.lst ys) => some ⟨min xs.length ys.length, fun i M => match M[m]?, M[n]? with
      | some (.lst xs), some (.lst ys) => some (zipAt xs ys i)
      | _, _ => none⟩
    | _, _ => none
  | _, _ => none
def fZip (f g : FE) : FI := fun env M => bnd (f env M) fun d M1 => bnd (g env M1) fun e M2 => match srcZ M2 d e with
  | some s => some (s, M2)
  | none => none
section
variable {X : Cx} {ct : Ct} {e e2 : Expr} {elts : List Expr} {kk : Nat} {p pos tpos : Pos} {fe f2 : FE}
theorem feeds_zipT {K : Frg} {ρ0 : List Addr} {H0 : Hp} {a b : Addr} {xs ys : List Dv} {vs ws : List V} (hs : TupD K H0 a vs) (hd : DVs K ρ0 H0 xs vs) (hs' : TupD K H0 b ws) (hd' : DVs K ρ0 H0 ys ws) : Feeds K ct ρ0 H0 (RZ.ItzT K a b) (fun i _ => some (zipAt xs ys i)) := by
  intro i ρ M H x r
  dsimp only
  unfold zipAt
  cases q : xs[i]? with
  | none => exact ⟨vs, ws, (hs.mono x).sq, (hs'.mono x).sq, .inl (by rw [← hd.length]; exact List.getElem?_eq_none_iff.mp q)⟩
  | some d =>
    cases q' : ys[i]? with
    | none => exact ⟨vs, ws, (hs.mono x).sq, (hs'.mono x).sq, .inr (by rw [← hd'.length]; exact List.getElem?_eq_none_iff.mp q')⟩
    | some d' =>
      obtain ⟨v, h1, h2⟩ := hd.get q
      obtain ⟨v', h1', h2'⟩ := hd'.get q'
      refine ⟨⟨vs, ws, v, v', (hs.mono x).sq, (hs'.mono x).sq, h1, h1'⟩, fun y H' hy => ?_⟩
      obtain ⟨T, z, z', rfl, hT, rfl, hy, hy'⟩ := hy
      have e1 := hy vs (hs.mono x).sq
      rw [h1] at e1; cases e1
      have e2 := hy' ws (hs'.mono x).sq
      rw [h1'] at e2; cases e2
      exact ⟨Ext.fresh hT, r.tup hT _, .pr (SqT.of upd_same) (.cons ((h2.mono x).mono (Ext.fresh hT)) (.cons ((h2'.mono x).mono (Ext.fresh hT)) .nil))⟩
theorem feeds_zipL {K : Frg} {ρ0 : List Addr} {H0 : Hp} {a b : Addr} {m n : Nat} (hm : ρ0[m]? = some a) (hn : ρ0[n]? = some b) : Feeds K ct ρ0 H0 (Itz K a b) (fun i M => match M[m]?, M[n]? with
      | some (.lst xs), some (.lst ys) => some (zipAt xs ys i)
      | _, _ => none) := by
  intro i ρ M H x r
  dsimp only
  cases h1 : M[m]? with
  | none => trivial
  | some o =>
    cases o with
    | ins c fs => trivial
    | dct kvs => trivial
    | dcn kvs => trivial
    | st xs => trivial
    | sk xs => trivial
    | lst xs =>
      cases h2 : M[n]? with
      | none => trivial
      | some o2 =>
        cases o2 with
        | ins c fs => trivial
        | dct kvs => trivial
        | dcn kvs => trivial
        | st xs => trivial
        | sk xs => trivial
        | lst ys =>
          obtain ⟨a', vs, ea, a1, a2, a3⟩ := r.lst h1 (.loc (x.pre m a hm))
          cases ea
          obtain ⟨b', ws, eb, b1, b2, b3⟩ := r.lst h2 (.loc (x.pre n b hn))
          cases eb
          show (match some (zipAt xs ys i) with | some (some d) => _ | some none => _ | none => _)
          unfold zipAt
          cases q : xs[i]? with
          | none => exact ⟨vs, ws, SqL.of a2, SqL.of b2, .inl (by rw [← a3.length]; exact List.getElem?_eq_none_iff.mp q)⟩
          | some d =>
            cases q' : ys[i]? with
            | none => exact ⟨vs, ws, SqL.of a2, SqL.of b2, .inr (by rw [← b3.length]; exact List.getElem?_eq_none_iff.mp q')⟩
            | some d' =>
              obtain ⟨v, g1, g2⟩ := a3.get q
              obtain ⟨v', g1', g2'⟩ := b3.get q'
              refine ⟨⟨vs, ws, v, v', SqL.of a2, SqL.of b2, g1, g1'⟩, fun y H' hy => ?_⟩
              obtain ⟨T, z, z', rfl, hT, rfl, hy, hy'⟩ := hy
              have e1 := hy vs (SqL.of a2)
              rw [g1] at e1; cases e1
              have e2 := hy' ws (SqL.of b2)
              rw [g1'] at e2; cases e2
              exact ⟨Ext.fresh hT, r.tup hT _, .pr (SqT.of upd_same) (.cons (g2.mono (Ext.fresh hT)) (.cons (g2'.mono (Ext.fresh hT)) .nil))⟩
theorem si_zip (hg : Gl X "zip") (hm : X.mg "zip" = none) (h : SE X ct e fe) (h2 : SE X ct e2 f2) (hs1 : starEach [e, e2] X.env = (false, eval e X.env) :: starEach [e2] X.env := by rfl) (hs2 : starEach [e2] X.env = [(false, eval e2 X.env)] := by rfl)
    (hpl : (backTo pos (starEach [e2] X.env)).any (·.1) = false := by rfl) : SI X ct (.Tuple elts kk tpos) (.Call (.Name "zip" p) [e, e2] [] pos) (fZip fe f2) := by
  refine PI.imp (RZ.pi_zipA hg hm (sa_cons h (sa_cons h2 sa_nil hs2) hs1) hs1 hpl) fun σ H R ⟨ρ, M, env, r, he, src, M', hf, hq⟩ => ?_
  obtain ⟨d, M1, h1, hf⟩ := bnd_some hf
  obtain ⟨d2, M2, h2, hf⟩ := bnd_some hf
  split at hf
  · rename_i s0 hs
    cases hf
    refine ⟨ρ, M, env, r, he, [d, d2], M', by show bnd (fe env M) _ = _; rw [h1]; show bnd (bnd (f2 env M1) _) _ = _; rw [h2]; rfl, fun ρ1 H1 e1 r1 vs dvs => ?_⟩
    obtain ⟨u, u', rfl, q1, q2⟩ := dvs_two dvs
    unfold srcZ at hs
    split at hs
    · cases hs
      cases q1 with
      | tup hs1 hd1 =>
        cases q2 with
        | tup hs2 hd2 => exact ⟨_, _, _, _, rfl, .inr ⟨hs1.sq, hs2.sq, hq ρ1 H1 e1 r1 _ (feeds_zipT hs1 hd1 hs2 hd2)⟩⟩
    · split at hs
      · rename_i g1 g2
        cases hs
        obtain ⟨a, ws, rfl, a1, a2, a3⟩ := r1.lst g1 q1
        obtain ⟨b, ws2, rfl, b1, b2, b3⟩ := r1.lst g2 q2
        exact ⟨_, _, _, _, rfl, .inl ⟨SqL.of a2, SqL.of b2, hq ρ1 H1 e1 r1 _ (feeds_zipL a1 b1)⟩⟩
      · cases hs
    · cases hs
  · cases hf
end
end Zl

/-! text Z15 -/
namespace Zl
open PySem L2 PySem.Spec PyProof.Rows
section
variable {X : Cx} {ct : Ct}
/-- repr of flat values, too -/
def reprE : List Dv → Mem → Rz
  | [.bl b], M => some (.str (if b then "True" else "False"), M)
  | [.non], M => some (.str "None", M)
  | [.str x], M => if (reprText x).length ≤ sizeLine then some (.str (reprText x), M) else none
  | ds, M => reprD ds M
theorem sc_reprE (hg : X.A.guards = some []) (hu : X.A.units + 64 < cLine) : SC X ct (.builtin "repr") reprE := by
  intro pins s σ H xs us Q I rv h
  obtain ⟨ρ, M, ds, r, dv, z, M', hf, hq⟩ := h
  unfold reprE at hf
  split at hf
  · cases hf
    obtain ⟨v, rfl, d1⟩ := dvs_one dv
    cases d1
    obtain ⟨u, rfl, ru⟩ := vals1 rv
    cases ru
    exact PySem.P.repr_of_bool ⟨.str _, H, I.tok _, ⟨_, rfl⟩, hq ρ H .refl r _ (.str _)⟩
  · cases hf
    obtain ⟨v, rfl, d1⟩ := dvs_one dv
    cases d1
    obtain ⟨u, rfl, ru⟩ := vals1 rv
    cases ru
    exact PySem.P.repr_of_none ⟨.str _, H, I.tok _, ⟨_, rfl⟩, hq ρ H .refl r _ (.str _)⟩
  · split at hf
    · rename_i hl
      cases hf
      obtain ⟨v, rfl, d1⟩ := dvs_one dv
      cases d1
      obtain ⟨u, rfl, t, rfl⟩ := vals1 rv
      exact PySem.P.repr_of_str ⟨.str _, H, I.tok _, ⟨_, rfl⟩, hq ρ H .refl r _ (.str _)⟩ hl
    · cases hf
  · exact sc_repr hg hu pins s σ H xs us Q I rv ⟨ρ, M, ds, r, dv, z, M', hf, hq⟩
/-- is None, is True, is False -/
def isE (neg : Bool) : Dv → Dv → Mem → Rz
  | .bl a, .bl b, M => some (.bl (xor neg (decide (a = b))), M)
  | d, e, M => isD neg d e M
theorem so_isE : SO X ct (compareOp .Is) (isE false) := by
  intro pins s σ H x y v u Q I rx ry h
  obtain ⟨ρ, M, d, e, r, dx, dy, z, M', hf, hq⟩ := h
  unfold isE at hf
  split at hf
  · cases hf; cases dx; cases dy
    exact op_isBl pins s σ H _ _ v u Q I rx ry ⟨_, _, rfl, rfl, hq ρ H .refl r _ (by rw [Bool.false_xor]; exact .bl _)⟩
  · exact so_is pins s σ H x y v u Q I rx ry ⟨ρ, M, _, _, r, dx, dy, z, M', hf, hq⟩
theorem so_isnotE : SO X ct (compareOp .IsNot) (isE true) := by
  intro pins s σ H x y v u Q I rx ry h
  obtain ⟨ρ, M, d, e, r, dx, dy, z, M', hf, hq⟩ := h
  unfold isE at hf
  split at hf
  · cases hf; cases dx; cases dy
    exact op_notBl pins s σ H _ _ v u Q I rx ry ⟨_, _, rfl, rfl, hq ρ H .refl r _ (by rw [Bool.true_xor]; exact .bl _)⟩
  · exact so_isnot pins s σ H x y v u Q I rx ry ⟨ρ, M, _, _, r, dx, dy, z, M', hf, hq⟩
end
end Zl

/-! text Z16 -/
namespace Zl
open PySem L2 PySem.Spec PyProof.Rows
section
variable {X : Cx} {ct : Ct}
def signsD (x : Str) : List Dv := x.cps.toList.map fun c => .str ⟨#[c]⟩
def signsV (x : Str) : List V := x.cps.toList.map fun c => .str ⟨#[c]⟩
theorem dvs_signs {K : Frg} {ρ : List Addr} {H : Hp} : ∀ cs : List Nat, DVs K ρ H (cs.map fun c => Dv.str ⟨#[c]⟩) (cs.map fun c => V.str ⟨#[c]⟩)
  | [] => .nil
  | c :: cs => .cons (.str _) (dvs_signs cs)
/-- list(text), too -/
def lstE : List Dv → Mem → Rz
  | [.str x], M => if x.cps.size ≤ sizeLine then some (.loc M.length, M ++ [.lst (signsD x)]) else none
  | ds, M => lstD ds M
theorem sc_listE (hc : X.calm = true) : SC X ct (.type "list") lstE := by
  intro pins s σ H xs us Q I rv h
  obtain ⟨ρ, M, ds, r, dv, z, M', hf, hq⟩ := h
  unfold lstE at hf
  split at hf
  · rename_i a0 b0 x
    split at hf
    · rename_i hl
      cases hf
      obtain ⟨v, rfl, d1⟩ := dvs_one dv
      cases d1
      obtain ⟨u, rfl, t, rfl⟩ := vals1 rv
      refine call_list_str (I.ok.hd hc) x t (fun h' tk acc' c' hkeep hS hacc => ?_) hl
      obtain ⟨r2, e2, h2⟩ := r.newL (I.hok.fresh (Nat.le_refl s.heap.objs.size)) (dvs_signs (K := X.K) (ρ := ρ) (H := H) x.cps.toList)
      refine ⟨.ref s.heap.objs.size, upd H s.heap.objs.size (.lst (signsV x)), I.laid hkeep (Nat.le_refl _) (show ObjOk X.prog X.w _ _ _ (.lst (signsV x)) from ⟨?_, acc'.toList, c', ?_, ?_⟩), rfl, hq _ _ e2 r2 _ (.loc h2)⟩
      · unfold signsV; rw [List.length_map]; simpa using hl
      · have el : acc'.toList.length = acc'.size := by simp
        refine vals_of_at (by unfold signsV; rw [List.length_map, el, hacc.1]; simp) fun j y w h1 h2 => ?_
        have := hacc.2 j w (by rw [← Array.getElem?_toList]; exact h2)
        obtain ⟨c, t', hc', rfl⟩ := this
        unfold signsV at h1
        rw [List.getElem?_map, Array.getElem?_toList, hc'] at h1
        simp at h1
        subst h1
        exact ⟨t', rfl⟩
      · simpa using hS
    · cases hf
  · exact sc_list pins s σ H xs us Q I rv ⟨ρ, M, ds, r, dv, z, M', hf, hq⟩
end
end Zl

/-! text ZN -/
namespace Zl
open PySem L2 PySem.Spec PyProof.Rows

/-! ## dicts whose keys are nested tuples -/
def valN (kvs : List (NestedKey × Dv × Dv)) (k : NestedKey) : Option Dv := (kvs.find? fun kv => decide (kv.1 = k)).map (·.2.2)
def putN (kvs : List (NestedKey × Dv × Dv)) (k : NestedKey) (kd v : Dv) : List (NestedKey × Dv × Dv) :=
  if (valN kvs k).isSome then kvs.map (fun kv => if kv.1 = k then (kv.1, kv.2.1, v) else kv) else kvs ++ [(k, kd, v)]
section
variable {X : Cx} {ct : Ct} {ρ : List Addr} {H : Hp} {M : Mem} {pins : List (Addr × Obj)} {σ : L2.St} {s : Shared}
theorem nest_all {n : Nat} (I : L2.Inv X pins σ H s) (ih : ∀ {d : Dv} {v : V} {u : Value} {k : NestedKey}, DV X.K ρ H d v → RelV v u → nkN n d = some k → NestedIs s.heap k u ∧ k.depth ≤ n) :
    ∀ {ds : List Dv} {vs : List V} {us : List Value} {ks : List NestedKey}, DVs X.K ρ H ds vs → Vals vs us → nkL (nkN n) ds = some ks → NestedAll s.heap ks us ∧ NestedKey.depthAll ks ≤ n
  | [], _, _, ks, h, r, e => by
    cases h
    cases r
    cases e
    exact ⟨.nil, Nat.zero_le _⟩
  | d :: ds, _, _, ks, h, r, e => by
    cases h with
    | cons h1 h2 =>
      cases r with
      | cons r1 r2 =>
        unfold nkL at e
        split at e
        · rename_i k hk
          split at e
          · rename_i ks' hks
            cases e
            obtain ⟨a1, a2⟩ := ih h1 r1 hk
            obtain ⟨b1, b2⟩ := nest_all I ih h2 r2 hks
            exact ⟨.cons a1 b1, by unfold NestedKey.depthAll; exact Nat.max_le.mpr ⟨a2, b2⟩⟩
          · cases e
        · cases e
theorem nest_is (I : L2.Inv X pins σ H s) : ∀ (n : Nat) {d : Dv} {v : V} {u : Value} {k : NestedKey}, DV X.K ρ H d v → RelV v u → nkN n d = some k → NestedIs s.heap k u ∧ k.depth ≤ n := by
  intro n
  induction n with
  | zero =>
    intro d v u k h r e
    cases h with
    | non => cases e; cases r; exact ⟨.none, Nat.zero_le _⟩
    | bl b => cases e; cases r; exact ⟨.bool rfl, Nat.zero_le _⟩
    | int i => cases e; obtain ⟨t, rfl⟩ := r; exact ⟨.int _ _, Nat.zero_le _⟩
    | str x => cases e; obtain ⟨t, rfl⟩ := r; exact ⟨.text _ _, Nat.zero_le _⟩
    | _ => cases e
  | succ n ih =>
    intro d v u k h r e
    cases h with
    | non => cases e; cases r; exact ⟨.none, Nat.zero_le _⟩
    | bl b => cases e; cases r; exact ⟨.bool rfl, Nat.zero_le _⟩
    | int i => cases e; obtain ⟨t, rfl⟩ := r; exact ⟨.int _ _, Nat.zero_le _⟩
    | str x => cases e; obtain ⟨t, rfl⟩ := r; exact ⟨.text _ _, Nat.zero_le _⟩
    | tup hs hd =>
      unfold nkN at e
      split at e
      · rename_i ks hks
        cases e
        cases r
        obtain ⟨its, rv, ⟨o, ho, hc, m, hdt⟩, _⟩ := I.tuple hs.sq
        obtain ⟨a1, a2⟩ := nest_all I ih hd rv hks
        exact ⟨.tup ho hc hdt (by simpa using a1), by unfold NestedKey.depth; omega⟩
      · cases e
    | _ => cases e
/-- a tuple that is a key stands somewhere -/
theorem key_is (I : L2.Inv X pins σ H s) {d : Dv} {v : V} {u : Value} {k : NestedKey} (h : DV X.K ρ H d v) (r : RelV v u) (e : keyN d = some k) : ∃ b, v = .ref b ∧ u = .ref b ∧ (nestedKind X.prog X.w).is s.heap k b := by
  unfold keyN at e
  split at e
  · have z := nest_is I 8 h r e
    cases h with
    | tup hs hd =>
      cases r
      exact ⟨_, rfl, rfl, z⟩
  · cases e
theorem Rl.dcn {K : Frg} (r : Rl K ct ρ M H) {n : Nat} {kvs : List (NestedKey × Dv × Dv)} (hm : M[n]? = some (.dcn kvs)) {v : V} (hv : DV K ρ H (.loc n) v) :
    ∃ a xs vs, v = .ref a ∧ ρ[n]? = some a ∧ H a = some (NDic ct.prg ct.wd a xs) ∧ kvs.map (·.1) = xs.map (·.1) ∧ (∀ p ∈ kvs, keyN p.2.1 = some p.1) ∧
      DVs K ρ H (kvs.map (·.2.1)) (xs.map fun x => V.ref x.2.1) ∧ DVs K ρ H (kvs.map (·.2.2)) vs ∧ Vals vs (xs.map (·.2.2)) := by
  obtain ⟨a, h1, xs, vs, h2⟩ := r.ok n _ hm
  cases hv with
  | loc h => rw [h] at h1; cases h1; exact ⟨_, xs, vs, rfl, h, h2⟩
theorem keys_are (I : L2.Inv X pins σ H s) : ∀ {kvs : List (NestedKey × Dv × Dv)} {xs : List (NestedKey × Addr × Value)}, kvs.map (·.1) = xs.map (·.1) → (∀ p ∈ kvs, keyN p.2.1 = some p.1) → DVs X.K ρ H (kvs.map (·.2.1)) (xs.map fun x => V.ref x.2.1) →
    ∀ x ∈ xs, (nestedKind X.prog X.w).is s.heap x.1 x.2.1
  | [], [], _, _, _ => fun x hx => by simp at hx
  | [], _ :: _, e, _, _ => by cases e
  | _ :: _, [], e, _, _ => by cases e
  | p :: kvs, q :: xs, e, hk, h => by
    simp only [List.map_cons, List.cons.injEq] at e
    cases h with
    | cons h1 h2 =>
      intro x hx
      rcases List.mem_cons.mp hx with rfl | hx
      · obtain ⟨b, e1, e2, z⟩ := key_is I h1 (show RelV (.ref x.2.1) (.ref x.2.1) from rfl) (hk p (List.mem_cons_self ..))
        cases e1
        rw [← e.1]; exact z
      · exact keys_are I e.2 (fun y hy => hk y (List.mem_cons_of_mem _ hy)) h2 x hx
/-- the dict in the heap -/
theorem dn_of (I : L2.Inv X pins σ H s) (hp : ct.prg = X.prog) (hw : ct.wd = X.w) {a : Addr} {kvs : List (NestedKey × Dv × Dv)} {xs : List (NestedKey × Addr × Value)} (h : H a = some (NDic ct.prg ct.wd a xs)) (h1 : kvs.map (·.1) = xs.map (·.1))
    (h2 : ∀ p ∈ kvs, keyN p.2.1 = some p.1) (h3 : DVs X.K ρ H (kvs.map (·.2.1)) (xs.map fun x => V.ref x.2.1)) : s.heap.DictOfH (nestedKind X.prog X.w) a xs ∧ xs.length ≤ sizeLine ∧ (a == sysModules) = false := by
  rw [hp, hw] at h
  obtain ⟨o, es, ep, g1, g2, g3, g4, g5, g6, g7⟩ := (I.hok a _ h).1
  exact ⟨⟨o, es, ep, g1, g2, g3, g4, keys_are I h1 h2 h3, g5⟩, g6, g7⟩
theorem ndic_new {P : Program} {w : World} {h : Heap} {a : Addr} {xs : List (NestedKey × Addr × Value)} (d : h.DictOfH (nestedKind P w) a xs) (z : xs.length ≤ sizeLine) (hs : (a == sysModules) = false) : ObjOk P w H h a (NDic P w a xs) := by
  obtain ⟨o, es, ep, g1, g2, g3, g4, _, g5⟩ := d
  refine ⟨⟨o, es, ep, g1, g2, g3, g4, g5, z, hs⟩, ⟨o, g1⟩, fun h1 h2 p k => ?_⟩
  obtain ⟨o, es, ep, g1, r⟩ := p
  exact ⟨o, es, ep, k o g1, r⟩
/-- an empty dict is one with such keys, too -/
theorem dn_empty (I : L2.Inv X pins σ H s) {a : Addr} (h : H a = some (.dK [])) : s.heap.DictOfH (nestedKind X.prog X.w) a [] ∧ (a == sysModules) = false := by
  obtain ⟨_, hd, vs, r, dd⟩ := dk_of I.hok h
  cases r
  obtain ⟨o, es, ep, g1, g2, g3, g4, g5, g6⟩ := dd
  refine ⟨⟨o, es, ep, g1, g2, g3, ?_, fun x hx => by simp at hx, List.nodup_nil⟩, hd⟩
  cases hes : es.toList with
  | nil => rfl
  | cons e r =>
    rw [hes] at g5
    cases g5
theorem val_ofN {K : Frg} {k : NestedKey} : ∀ {kvs : List (NestedKey × Dv × Dv)} {xs : List (NestedKey × Addr × Value)} {vs : List V}, kvs.map (·.1) = xs.map (·.1) → DVs K ρ H (kvs.map (·.2.2)) vs → Vals vs (xs.map (·.2.2)) →
    (∀ d, valN kvs k = some d → ∃ p v, atKey xs k = some p ∧ DV K ρ H d v ∧ RelV v p.2) ∧ (valN kvs k = none → atKey xs k = none)
  | [], [], _, _, _, _ => ⟨fun d e => (by cases e), fun _ => rfl⟩
  | [], _ :: _, _, e, _, _ => by cases e
  | _ :: _, [], _, e, _, _ => by cases e
  | p :: kvs, q :: xs, _, e, h, r => by
    simp only [List.map_cons, List.cons.injEq] at e
    cases h with
    | cons h1 h2 =>
      cases r with
      | cons r1 r2 =>
        obtain ⟨i1, i2⟩ := val_ofN (k := k) e.2 h2 r2
        unfold valN atKey
        rw [List.find?_cons, List.find?_cons]
        by_cases z : p.1 = k
        · rw [decide_eq_true z, decide_eq_true (e.1 ▸ z)]
          exact ⟨fun d ed => ⟨_, _, rfl, by simp at ed; rw [← ed]; exact h1, r1⟩, fun ed => by simp at ed⟩
        · rw [decide_eq_false z, decide_eq_false (fun y => z (e.1.trans y))]
          exact ⟨i1, i2⟩
theorem some_ofN {K : Frg} {k : NestedKey} {kvs : List (NestedKey × Dv × Dv)} {xs : List (NestedKey × Addr × Value)} {vs : List V} (e : kvs.map (·.1) = xs.map (·.1)) (h : DVs K ρ H (kvs.map (·.2.2)) vs) (r : Vals vs (xs.map (·.2.2))) : (atKey xs k).isSome = (valN kvs k).isSome := by
  obtain ⟨i1, i2⟩ := val_ofN (k := k) e h r
  cases z : valN kvs k with
  | none => rw [i2 z]; rfl
  | some d => obtain ⟨p, v, e2, _⟩ := i1 d z; rw [e2]; rfl
theorem Vals.app {vs ws : List V} {us ts : List Value} (h : Vals vs us) (h' : Vals ws ts) : Vals (vs ++ ws) (us ++ ts) := h.append h'
/-- the store -/
theorem map_putN {K : Frg} {k : NestedKey} {d : Dv} {v : V} {u : Value} (hd : DV K ρ H d v) (hu : RelV v u) : ∀ {kvs : List (NestedKey × Dv × Dv)} {xs : List (NestedKey × Addr × Value)} {vs : List V}, kvs.map (·.1) = xs.map (·.1) → DVs K ρ H (kvs.map (·.2.2)) vs → Vals vs (xs.map (·.2.2)) →
    ∃ ws, (kvs.map fun kv => if kv.1 = k then (kv.1, kv.2.1, d) else kv).map (·.1) = (xs.map (putAt k u)).map (·.1) ∧ (kvs.map fun kv => if kv.1 = k then (kv.1, kv.2.1, d) else kv).map (·.2.1) = kvs.map (·.2.1) ∧
      ((xs.map (putAt k u)).map fun x => V.ref x.2.1) = (xs.map fun x => V.ref x.2.1) ∧ DVs K ρ H ((kvs.map fun kv => if kv.1 = k then (kv.1, kv.2.1, d) else kv).map (·.2.2)) ws ∧ Vals ws ((xs.map (putAt k u)).map (·.2.2))
  | [], [], _, _, h, r => by cases h; exact ⟨[], rfl, rfl, rfl, .nil, .nil⟩
  | [], _ :: _, _, e, _, _ => by cases e
  | _ :: _, [], _, e, _, _ => by cases e
  | p :: kvs, q :: xs, _, e, h, r => by
    simp only [List.map_cons, List.cons.injEq] at e
    cases h with
    | cons h1 h2 =>
      cases r with
      | cons r1 r2 =>
        rename_i v0 vs0
        obtain ⟨ws, i1, i2, i3, i4, i5⟩ := map_putN (k := k) hd hu e.2 h2 r2
        simp only [List.map_cons]
        by_cases z : p.1 = k
        · have z2 : q.1 = k := e.1 ▸ z
          refine ⟨v :: ws, ?_, ?_, ?_, ?_, ?_⟩
          · rw [if_pos z, i1]; unfold putAt; rw [if_pos z2, e.1]
          · rw [if_pos z, i2]
          · rw [i3]; unfold putAt; rw [if_pos z2]
          · rw [if_pos z]; exact .cons hd i4
          · unfold putAt; rw [if_pos z2]; exact .cons hu i5
        · have z2 : ¬ q.1 = k := fun y => z (e.1.trans y)
          refine ⟨v0 :: ws, ?_, ?_, ?_, ?_, ?_⟩
          · rw [if_neg z, i1]; unfold putAt; rw [if_neg z2, e.1]
          · rw [if_neg z, i2]
          · rw [i3]; unfold putAt; rw [if_neg z2]
          · rw [if_neg z]; exact .cons h1 i4
          · unfold putAt; rw [if_neg z2]; exact .cons r1 i5
theorem put_ofN {K : Frg} {k : NestedKey} {kd d : Dv} {b : Addr} {v : V} {u : Value} {kvs : List (NestedKey × Dv × Dv)} {xs : List (NestedKey × Addr × Value)} {vs : List V} (hk : keyN kd = some k) (hkd : DV K ρ H kd (.ref b)) (hd : DV K ρ H d v) (hu : RelV v u)
    (h1 : kvs.map (·.1) = xs.map (·.1)) (h2 : ∀ p ∈ kvs, keyN p.2.1 = some p.1) (h3 : DVs K ρ H (kvs.map (·.2.1)) (xs.map fun x => V.ref x.2.1)) (h4 : DVs K ρ H (kvs.map (·.2.2)) vs) (h5 : Vals vs (xs.map (·.2.2))) :
    ∃ ws, (putN kvs k kd d).map (·.1) = (storedH xs k b u).map (·.1) ∧ (∀ p ∈ putN kvs k kd d, keyN p.2.1 = some p.1) ∧ DVs K ρ H ((putN kvs k kd d).map (·.2.1)) ((storedH xs k b u).map fun x => V.ref x.2.1) ∧
      DVs K ρ H ((putN kvs k kd d).map (·.2.2)) ws ∧ Vals ws ((storedH xs k b u).map (·.2.2)) := by
  unfold putN storedH
  rw [some_ofN h1 h4 h5]
  cases z : (valN kvs k).isSome with
  | true =>
    rw [if_pos rfl, if_pos rfl]
    obtain ⟨ws, i1, i2, i3, i4, i5⟩ := map_putN (k := k) hd hu h1 h4 h5
    refine ⟨ws, i1, fun p hp => ?_, ?_, i4, i5⟩
    · obtain ⟨q, hq, rfl⟩ := List.mem_map.mp hp
      split
      · exact h2 q hq
      · exact h2 q hq
    · rw [i2, i3]; exact h3
  | false =>
    rw [if_neg (by decide), if_neg (by decide)]
    refine ⟨vs ++ [v], ?_, fun p hp => ?_, ?_, ?_, ?_⟩
    · rw [List.map_append, List.map_append, h1]; rfl
    · rcases List.mem_append.mp hp with y | y
      · exact h2 p y
      · rw [List.mem_singleton.mp y]; exact hk
    · rw [List.map_append, List.map_append]; exact h3.append (.cons hkd .nil)
    · rw [List.map_append]; exact h4.append (.cons hd .nil)
    · rw [List.map_append]; exact h5.append (.cons hu .nil)
end
end Zl

/-! text Z17 -/
namespace Zl
open PySem L2 PySem.Spec PyProof.Rows

/-! ## dicts whose keys are ints and texts -/
def keyD : Dv → Option Key
  | .int i => some (.inl i)
  | .str x => some (.inr x)
  | _ => none
def valD (kvs : List (Key × Dv)) (k : Key) : Option Dv := (kvs.find? fun kv => decide (kv.1 = k)).map (·.2)
def putDk (kvs : List (Key × Dv)) (k : Key) (v : Dv) : List (Key × Dv) :=
  if (kvs.any fun kv => decide (kv.1 = k)) = true then kvs.map (fun kv => if kv.1 = k then (kv.1, v) else kv) else kvs ++ [(k, v)]
section
variable {K : Frg} {ρ : List Addr} {H : Hp}
theorem keyD_of {d : Dv} {v : V} {k : Key} (h : DV K ρ H d v) (e : keyD d = some k) : v = kV k := by
  cases h <;> cases e <;> rfl
/-- what is found, what is not -/
theorem val_of {k : Key} : ∀ {kvs : List (Key × Dv)} {vs : List (Key × V)}, kvs.map (·.1) = vs.map (·.1) → DVs K ρ H (kvs.map (·.2)) (vs.map (·.2)) →
    (∀ d, valD kvs k = some d → ∃ v, valV vs k = some v ∧ DV K ρ H d v) ∧ (valD kvs k = none → valV vs k = none)
  | [], [], _, _ => ⟨fun d e => (by cases e), fun _ => rfl⟩
  | [], _ :: _, e, _ => by cases e
  | _ :: _, [], e, _ => by cases e
  | p :: kvs, q :: vs, e, h => by
    simp only [List.map_cons, List.cons.injEq] at e
    cases h with
    | cons h1 hr =>
      obtain ⟨i1, i2⟩ := val_of (k := k) e.2 hr
      unfold valD
      rw [List.find?_cons]
      by_cases z : p.1 = k
      · rw [decide_eq_true z]
        rw [valV_pos (e.1 ▸ z)]
        exact ⟨fun d ed => ⟨q.2, rfl, by simp at ed; rw [← ed]; exact h1⟩, fun ed => by simp at ed⟩
      · rw [decide_eq_false z]
        rw [valV_neg (fun y => z (e.1.trans y))]
        exact ⟨i1, i2⟩
theorem any_of_keys {k : Key} : ∀ {kvs : List (Key × Dv)} {vs : List (Key × V)}, kvs.map (·.1) = vs.map (·.1) → (kvs.any fun kv => decide (kv.1 = k)) = vs.any fun kv => decide (kv.1 = k)
  | [], [], _ => rfl
  | [], _ :: _, e => by cases e
  | _ :: _, [], e => by cases e
  | p :: kvs, q :: vs, e => by
    simp only [List.map_cons, List.cons.injEq] at e
    rw [List.any_cons, List.any_cons, any_of_keys e.2, e.1]
theorem map_put {k : Key} {x : Dv} {u : V} (hx : DV K ρ H x u) : ∀ {kvs : List (Key × Dv)} {vs : List (Key × V)}, kvs.map (·.1) = vs.map (·.1) → DVs K ρ H (kvs.map (·.2)) (vs.map (·.2)) →
    (kvs.map fun kv => if kv.1 = k then (kv.1, x) else kv).map (·.1) = (vs.map fun kv => if kv.1 = k then (kv.1, u) else kv).map (·.1) ∧
    DVs K ρ H ((kvs.map fun kv => if kv.1 = k then (kv.1, x) else kv).map (·.2)) ((vs.map fun kv => if kv.1 = k then (kv.1, u) else kv).map (·.2))
  | [], [], _, _ => ⟨rfl, .nil⟩
  | [], _ :: _, e, _ => by cases e
  | _ :: _, [], e, _ => by cases e
  | p :: kvs, q :: vs, e, h => by
    simp only [List.map_cons, List.cons.injEq] at e
    cases h with
    | cons h1 hr =>
      obtain ⟨i1, i2⟩ := map_put (k := k) hx e.2 hr
      simp only [List.map_cons, List.cons.injEq]
      by_cases z : p.1 = k
      · rw [if_pos z, if_pos (e.1 ▸ z)]
        exact ⟨⟨e.1, i1⟩, .cons hx i2⟩
      · rw [if_neg z, if_neg (fun y => z (e.1.trans y))]
        exact ⟨⟨e.1, i1⟩, .cons h1 i2⟩
theorem put_of {k : Key} {x : Dv} {u : V} {kvs : List (Key × Dv)} {vs : List (Key × V)} (hx : DV K ρ H x u) (e : kvs.map (·.1) = vs.map (·.1)) (h : DVs K ρ H (kvs.map (·.2)) (vs.map (·.2))) :
    (putDk kvs k x).map (·.1) = (putK vs k u).map (·.1) ∧ DVs K ρ H ((putDk kvs k x).map (·.2)) ((putK vs k u).map (·.2)) := by
  unfold putDk putK
  rw [any_of_keys e]
  split
  · exact map_put hx e h
  · rw [List.map_append, List.map_append, List.map_append, List.map_append, e]
    exact ⟨rfl, h.append (.cons hx .nil)⟩
theorem Rl.dct {ct : Ct} {M : Mem} (r : Rl K ct ρ M H) {n : Nat} {kvs : List (Key × Dv)} (hm : M[n]? = some (.dct kvs)) {v : V} (hv : DV K ρ H (.loc n) v) :
    ∃ a vs, v = .ref a ∧ ρ[n]? = some a ∧ H a = some (.dK vs) ∧ kvs.map (·.1) = vs.map (·.1) ∧ DVs K ρ H (kvs.map (·.2)) (vs.map (·.2)) := by
  obtain ⟨a, h1, vs, h2, h3, h4⟩ := r.ok n _ hm
  cases hv with
  | loc h => rw [h] at h1; cases h1; exact ⟨_, vs, rfl, h, h2, h3, h4⟩
end
theorem Rl.st {K : Frg} {ρ : List Addr} {H : Hp} {ct : Ct} {M : Mem} (r : Rl K ct ρ M H) {n : Nat} {xs : List Int} (hm : M[n]? = some (.st xs)) {v : V} (hv : DV K ρ H (.loc n) v) :
    ∃ a, v = .ref a ∧ ρ[n]? = some a ∧ H a = some (.set (fun k => xs.any (· == k)) xs.length) := by
  obtain ⟨a, h1, h2⟩ := r.ok n _ hm
  cases hv with
  | loc h => rw [h] at h1; cases h1; exact ⟨_, rfl, h, h2⟩
theorem Rl.sk {K : Frg} {ρ : List Addr} {H : Hp} {ct : Ct} {M : Mem} (r : Rl K ct ρ M H) {n : Nat} {xs : List Str} (hm : M[n]? = some (.sk xs)) {v : V} (hv : DV K ρ H (.loc n) v) :
    ∃ a, v = .ref a ∧ ρ[n]? = some a ∧ H a = some (SetK ct.prg ct.wd a (fun k => xs.any fun x => decide (k = Sum.inr x)) xs.length) := by
  obtain ⟨a, h1, h2⟩ := r.ok n _ hm
  cases hv with
  | loc h => rw [h] at h1; cases h1; exact ⟨_, rfl, h, h2⟩
section
variable {X : Cx} {ct : Ct} {pos : Pos} {e o i' : Expr} {fo fe fi : FE}
/-- {} -/
def fDNew : FE := fun _ M => some (.loc M.length, M ++ [.dct []])
theorem se_dnew : SE X ct (.Dict [] [] pos) fDNew := PE.imp pe_dnewK fun σ H Q ⟨ρ, M, env, r, he, d, M', hf, hq⟩ p hp => by
  cases hf
  obtain ⟨r2, e2, h2⟩ := r.new (o := .dct []) (o' := .dK []) hp ⟨[], upd_same, rfl, .nil⟩
  exact hq _ _ e2 r2 _ (.loc h2)
/-- k in d, too -/
def inE (neg : Bool) (x y : Dv) (M : Mem) : Rz := match y with
  | .loc n => match M[n]? with
    | some (.dct kvs) => match keyD x with
      | some k => some (.bl (xor neg (valD kvs k).isSome), M)
      | none => match kvs with
        | [] => match keyN x with
          | some _ => some (.bl (xor neg false), M)
          | none => none
        | _ => none
    | some (.dcn kvs) => match keyN x with
      | some k => some (.bl (xor neg (valN kvs k).isSome), M)
      | none => none
    | _ => inD neg x y M
  | _ => inD neg x y M
theorem room_n (hu : X.A.units + 65 < cLine) : (nestedKind X.prog X.w).room X.A.in1 := by
  show X.A.units + 1 + 8 < cLine
  omega
theorem dget_of {K : Frg} {ρ : List Addr} {H : Hp} {a : Addr} {kvs : List (Key × Dv)} {vs : List (Key × V)} {k : Key} (h2 : H a = some (.dK vs)) (h3 : kvs.map (·.1) = vs.map (·.1)) (h4 : DVs K ρ H (kvs.map (·.2)) (vs.map (·.2))) : (valV vs k).isSome = (valD kvs k).isSome := by
  obtain ⟨i1, i2⟩ := val_of (k := k) h3 h4
  cases e : valD kvs k with
  | none => rw [i2 e]; rfl
  | some d => obtain ⟨v, e2, _⟩ := i1 d e; rw [e2]; rfl
theorem so_inE (hu : X.A.units + 65 < cLine) (hp : ct.prg = X.prog := by rfl) (hw : ct.wd = X.w := by rfl) : SO X ct (compareOp .In) (inE false) := by
  intro pins s σ H x y v u Q I rx ry h
  obtain ⟨ρ, M, d, e, r, dx, dy, z, M', hf, hq⟩ := h
  have old : inD false d e M = some (z, M') → wpAny (model X.prog X.w) X.A (compareOp .In v u) (EP X pins σ Q) X.xe s := fun hf => so_in hu pins s σ H x y v u Q I rx ry ⟨ρ, M, d, e, r, dx, dy, z, M', hf, hq⟩
  unfold inE at hf
  split at hf
  · split at hf
    · rename_i kvs hm
      split at hf
      · rename_i k hk
        cases hf
        obtain ⟨a, vs, rfl, a1, a2, a3, a4⟩ := r.dct hm dy
        obtain rfl := keyD_of dx hk
        obtain rfl : u = Value.ref a := ry
        refine d_in (by omega) I (DGet.k a2) rx fun s' I' => ⟨.bl (valV vs k).isSome, H, I', rfl, hq ρ H .refl r _ ?_⟩
        rw [dget_of a2 a3 a4, Bool.false_xor]; exact .bl _
      · split at hf
        · split at hf
          · rename_i k hk
            cases hf
            obtain ⟨a, vs, rfl, a1, a2, a3, a4⟩ := r.dct hm dy
            have ev : vs = [] := List.length_eq_zero_iff.mp (by have := congrArg List.length a3; simpa using this.symm)
            subst ev
            obtain rfl : u = Value.ref a := ry
            obtain ⟨b, rfl, rfl, ki⟩ := key_is I dx rx hk
            obtain ⟨dd, ds⟩ := dn_empty I a2
            exact wpAny_in_heap (room_n hu) ki ds dd ⟨.bl false, H, I.tok _, rfl, hq ρ H .refl r _ (.bl _)⟩
          · cases hf
        · cases hf
    · rename_i kvs hm
      split at hf
      · rename_i k hk
        cases hf
        obtain ⟨a, xs, vs, rfl, a1, a2, a3, a4, a5, a6, a7⟩ := r.dcn hm dy
        obtain rfl : u = Value.ref a := ry
        obtain ⟨b, rfl, rfl, ki⟩ := key_is I dx rx hk
        obtain ⟨dd, _, ds⟩ := dn_of I hp hw a2 a3 a4 a5
        refine wpAny_in_heap (room_n hu) ki ds dd ⟨.bl (atKey xs k).isSome, H, I.tok _, rfl, hq ρ H .refl r _ ?_⟩
        rw [some_ofN a3 a6 a7, Bool.false_xor]; exact .bl _
      · cases hf
    · exact old hf
  · exact old hf
theorem so_notinE (hu : X.A.units + 65 < cLine) (hp : ct.prg = X.prog := by rfl) (hw : ct.wd = X.w := by rfl) : SO X ct (compareOp .NotIn) (inE true) := by
  intro pins s σ H x y v u Q I rx ry h
  obtain ⟨ρ, M, d, e, r, dx, dy, z, M', hf, hq⟩ := h
  have old : inD true d e M = some (z, M') → wpAny (model X.prog X.w) X.A (compareOp .NotIn v u) (EP X pins σ Q) X.xe s := fun hf => so_notin hu pins s σ H x y v u Q I rx ry ⟨ρ, M, d, e, r, dx, dy, z, M', hf, hq⟩
  unfold inE at hf
  split at hf
  · split at hf
    · rename_i kvs hm
      split at hf
      · rename_i k hk
        cases hf
        obtain ⟨a, vs, rfl, a1, a2, a3, a4⟩ := r.dct hm dy
        obtain rfl := keyD_of dx hk
        obtain rfl : u = Value.ref a := ry
        refine d_notIn (by omega) I (DGet.k a2) rx fun s' I' => ⟨.bl (!(valV vs k).isSome), H, I', rfl, hq ρ H .refl r _ ?_⟩
        rw [dget_of a2 a3 a4, Bool.true_xor]; exact .bl _
      · split at hf
        · split at hf
          · rename_i k hk
            cases hf
            obtain ⟨a, vs, rfl, a1, a2, a3, a4⟩ := r.dct hm dy
            have ev : vs = [] := List.length_eq_zero_iff.mp (by have := congrArg List.length a3; simpa using this.symm)
            subst ev
            obtain rfl : u = Value.ref a := ry
            obtain ⟨b, rfl, rfl, ki⟩ := key_is I dx rx hk
            obtain ⟨dd, ds⟩ := dn_empty I a2
            refine notIn_keyed (kvs := []) (room_n hu) ki ds ⟨[], dd, rfl⟩ ⟨.bl true, H, I.tok _, rfl, hq ρ H .refl r _ (.bl _)⟩
          · cases hf
        · cases hf
    · rename_i kvs hm
      split at hf
      · rename_i k hk
        cases hf
        obtain ⟨a, xs, vs, rfl, a1, a2, a3, a4, a5, a6, a7⟩ := r.dcn hm dy
        obtain rfl : u = Value.ref a := ry
        obtain ⟨b, rfl, rfl, ki⟩ := key_is I dx rx hk
        obtain ⟨dd, _, ds⟩ := dn_of I hp hw a2 a3 a4 a5
        refine notIn_keyed (room_n hu) ki ds ⟨xs, dd, rfl⟩ ⟨.bl (!(valueAt (pairsH xs) k).isSome), H, I.tok _, rfl, hq ρ H .refl r _ ?_⟩
        rw [valueAt_pairsH, Option.isSome_map, some_ofN a3 a6 a7, Bool.true_xor]; exact .bl _
      · cases hf
    · exact old hf
  · exact old hf
/-- d[k], too -/
def ixE (x y : Dv) (M : Mem) : Rz := match x with
  | .loc n => match M[n]? with
    | some (.dct kvs) => match keyD y with
      | some k => match valD kvs k with
        | some d => some (d, M)
        | none => none
      | none => none
    | some (.dcn kvs) => match keyN y with
      | some k => match valN kvs k with
        | some d => some (d, M)
        | none => none
      | none => none
    | _ => ixD x y M
  | _ => ixD x y M
theorem sx_E (hu : X.A.units + 65 < cLine) (hp : ct.prg = X.prog) (hw : ct.wd = X.w) : IxR X (tO X.K ct ixE) := by
  intro value slice pins s σ H x y v u Q I rx ry h hsub
  obtain ⟨ρ, M, d, e, r, dx, dy, z, M', hf, hq⟩ := h
  have old : ixD d e M = some (z, M') → wpAny (model X.prog X.w) X.A (subscriptTail value slice v u) (EP X pins σ Q) X.xe s := fun hf => sx_seq value slice pins s σ H x y v u Q I rx ry ⟨ρ, M, d, e, r, dx, dy, z, M', hf, hq⟩ hsub
  unfold ixE at hf
  split at hf
  · split at hf
    · rename_i kvs hm
      split at hf
      · rename_i k hk
        split at hf
        · rename_i d' hd
          cases hf
          obtain ⟨a, vs, rfl, a1, a2, a3, a4⟩ := r.dct hm dx
          obtain rfl := keyD_of dy hk
          obtain rfl : v = Value.ref a := rx
          obtain ⟨w, e2, dw⟩ := (val_of (k := k) a3 a4).1 _ hd
          have g : DGet H a (kV k) (some w) := e2 ▸ DGet.k a2
          exact tail_any (dict_typeIs I g) PySem.F.slot_dict_getitem.lookup (d_getItem (by omega) I g ry fun w' s' I' rw' => ⟨w, H, I', rw', hq ρ H .refl r _ dw⟩) hsub
        · cases hf
      · cases hf
    · rename_i kvs hm
      split at hf
      · rename_i k hk
        split at hf
        · rename_i d' hd
          cases hf
          obtain ⟨a, xs, vs, rfl, a1, a2, a3, a4, a5, a6, a7⟩ := r.dcn hm dx
          obtain rfl : v = Value.ref a := rx
          obtain ⟨b, rfl, rfl, ki⟩ := key_is I dy ry hk
          obtain ⟨dd, _, ds⟩ := dn_of I hp hw a2 a3 a4 a5
          obtain ⟨p, w, e2, dw, rw'⟩ := (val_ofN (k := k) a3 a6 a7).1 _ hd
          exact tail_any dd.typeIs PySem.F.slot_dict_getitem.lookup (wpAny_getItem_heap (room_n hu) ki dd e2 ⟨w, H, I.tok _, rw', hq ρ H .refl r _ dw⟩) hsub
        · cases hf
      · cases hf
    · exact old hf
  · exact old hf
theorem se_ixE {a b : Expr} {fa fb : FE} (hu : X.A.units + 65 < cLine) (ha : SE X ct a fa) (hb : SE X ct b fb) (hs : PlainIx b := by intro _ _; rfl) (hp : ct.prg = X.prog := by rfl) (hw : ct.wd = X.w := by rfl) : SE X ct (.Subscript a b pos) (fO ixE fa fb) :=
  PE.imp (pe_ix (sx_E hu hp hw) ha hb hs) fun _ _ _ w => op_imp w
/-- len(d), too -/
def lenE : List Dv → Mem → Rz
  | [.loc n], M => match M[n]? with
    | some (.dct kvs) => some (.int (kvs.length : Nat), M)
    | some (.dcn kvs) => some (.int (kvs.length : Nat), M)
    | some (.st xs) => some (.int (xs.length : Nat), M)
    | some (.sk xs) => some (.int (xs.length : Nat), M)
    | _ => lenD [.loc n] M
  | ds, M => lenD ds M
theorem sc_lenE : SC X ct (.builtin "len") lenE := by
  intro pins s σ H xs us Q I rv h
  obtain ⟨ρ, M, ds, r, dv, z, M', hf, hq⟩ := h
  unfold lenE at hf
  split at hf
  · split at hf
    · rename_i kvs hm
      cases hf
      obtain ⟨v, rfl, d1⟩ := dvs_one dv
      obtain ⟨a, vs, rfl, a1, a2, a3, a4⟩ := r.dct hm d1
      refine call_lenD pins s σ H _ us Q I rv ⟨a, vs, rfl, a2, hq ρ H .refl r _ ?_⟩
      have : kvs.length = vs.length := by have := congrArg List.length a3; simpa using this
      rw [this]; exact .int _
    · rename_i kvs hm
      cases hf
      obtain ⟨v, rfl, d1⟩ := dvs_one dv
      obtain ⟨a, xs, vs, rfl, a1, a2, a3, a4⟩ := r.dcn hm d1
      obtain ⟨u, rfl, ru⟩ := vals1 rv
      cases ru
      obtain ⟨o, es, ep, g1, g2, g3, g4, g5, g6, g7⟩ := (I.hok a _ a2).1
      have hl : es.size = kvs.length := by
        have := size_of_entries g4
        have h2 := congrArg List.length a3
        simp only [List.length_map] at h2
        omega
      have raw : s.heap.DictRaw a es ep := ⟨o, g1, g2, g3⟩
      have h62 : sizeLine < 2 ^ 62 := by decide
      refine PyProof.Rows.call_len_slot (n := (kvs.length : Int)) raw.typeIs F.slot_dict_len (fun Q' h => call_len_raw g7 raw (by rw [hl]; exact h)) (by omega) (by
          have h2 := congrArg List.length a3
          simp only [List.length_map] at h2
          omega) ?_
      exact ⟨.int kvs.length, H, I.tok _, ⟨_, rfl⟩, hq ρ H .refl r _ (.int _)⟩
    · rename_i zs hm
      cases hf
      obtain ⟨v, rfl, d1⟩ := dvs_one dv
      obtain ⟨a, rfl, a1, a2⟩ := r.st hm d1
      obtain ⟨u, rfl, ru⟩ := vals1 rv
      cases ru
      obtain ⟨o, es, ep, t, g1, g2, g3, g4, g5, g6, g7, g8⟩ := (show s.heap.SetOf (intKind X.prog X.w) a _ _ from I.hok a _ a2)
      refine call_len_set g1 g2 g3 g7 (by
          have h62 : scanBound < 2 ^ 62 := by decide
          omega) ?_
      rw [g8]
      exact ⟨.int zs.length, H, I.tok _, ⟨_, rfl⟩, hq ρ H .refl r _ (.int _)⟩
    · rename_i zs hm
      cases hf
      obtain ⟨v, rfl, d1⟩ := dvs_one dv
      obtain ⟨a, rfl, a1, a2⟩ := r.sk hm d1
      obtain ⟨u, rfl, ru⟩ := vals1 rv
      cases ru
      obtain ⟨o, es, ep, t, g1, g2, g3, g4, g5, g6, g7, g8⟩ := (I.hok a _ a2).1
      refine call_len_set g1 g2 g3 g7 (by
          have h62 : scanBound < 2 ^ 62 := by decide
          omega) ?_
      rw [g8]
      exact ⟨.int zs.length, H, I.tok _, ⟨_, rfl⟩, hq ρ H .refl r _ (.int _)⟩
    · exact sc_len pins s σ H xs us Q I rv ⟨ρ, M, _, r, dv, z, M', hf, hq⟩
  · exact sc_len pins s σ H xs us Q I rv ⟨ρ, M, _, r, dv, z, M', hf, hq⟩
/-- d[k] = v, too -/
def setE (o i v : Dv) (M : Mem) : Option Mem := match o with
  | .loc n => match M[n]? with
    | some (.dct kvs) => match keyD i with
      | some k => if kvs.length < sizeLine then some (M.set n (.dct (putDk kvs k v))) else none
      | none => match kvs with
        | [] => match keyN i with
          | some k => some (M.set n (.dcn (putN [] k i v)))
          | none => none
        | _ => none
    | some (.dcn kvs) => match keyN i with
      | some k => if kvs.length < sizeLine then some (M.set n (.dcn (putN kvs k i v))) else none
      | none => none
    | _ => setD o i v M
  | _ => setD o i v M
/-- the store of a nested key, by what is known -/
def rSetN (X : Cx) : TSet := fun o i v H Q => ∃ (ρ : List Addr) (a : Addr) (kvs : List (NestedKey × Dv × Dv)) (xs : List (NestedKey × Addr × Value)) (kd : Dv) (k : NestedKey), o = .ref a ∧ (H a = some (NDic X.prog X.w a xs) ∨ (xs = [] ∧ H a = some (.dK []))) ∧
  kvs.map (·.1) = xs.map (·.1) ∧ (∀ p ∈ kvs, keyN p.2.1 = some p.1) ∧ DVs X.K ρ H (kvs.map (·.2.1)) (xs.map fun x => V.ref x.2.1) ∧ keyN kd = some k ∧ DV X.K ρ H kd i ∧ xs.length < sizeLine ∧
  ∀ b u, i = .ref b → RelV v u → Q (upd H a (NDic X.prog X.w a (storedH xs k b u)))
theorem set_dictN (hu : X.A.units + 65 < cLine) : PSet X (rSetN X) := by
  intro pins s σ H o i v ov iv u Q I ro ri rv h
  obtain ⟨ρ, a, kvs, xs, kd, k, rfl, h0, h1, h2, h3, hk, hkd, hl, q⟩ := h
  cases (show ov = Value.ref a from ro)
  obtain ⟨b, rfl, rfl, ki⟩ := key_is I hkd ri hk
  have key : s.heap.DictOfH (nestedKind X.prog X.w) a xs ∧ (a == sysModules) = false ∧ Mut (H a) := by
    rcases h0 with h0 | ⟨rfl, h0⟩
    · obtain ⟨o, es, ep, g1, g2, g3, g4, g5, g6, g7⟩ := (I.hok a _ h0).1
      exact ⟨⟨o, es, ep, g1, g2, g3, g4, keys_are I h1 h2 h3, g5⟩, g7, by rw [h0]; trivial⟩
    · obtain ⟨dd, ds⟩ := dn_empty I h0
      exact ⟨dd, ds, by rw [h0]; trivial⟩
  obtain ⟨dd, ds, mu⟩ := key
  refine wpAny_setItem_heap (hsz := by omega) (room_n hu) ki dd fun h' dd' sb => ?_
  have he : ∃ u, h'.get? a = some u := by
    obtain ⟨o, _, _, ho, _⟩ := dd'
    exact ⟨o, ho⟩
  have hlen : (storedH xs k b u).length ≤ sizeLine := by
    have := storedH_length xs k b u
    omega
  exact ⟨_, I.write (e := a) (t' := s.toks + (nestedKind X.prog X.w).draws k) mu (.inl rfl) (fun b u hb hu => (sb.2 b hb).trans hu) he (ndic_new dd' hlen ds), q b u rfl rv⟩
def gSE (fo fi : FE) : FG := fun d env M => bnd (fo env M) fun o M1 => bnd (fi env M1) fun i M2 => match setE o i d M2 with
  | some M3 => some (env, M3)
  | none => none
theorem PSet.or {r r' : TSet} (h : PSet X r) (h' : PSet X r') : PSet X (fun o i v H Q => r o i v H Q ∨ r' o i v H Q) := fun pins s σ H o i v ov iv u Q I ro ri rv w => w.elim (h pins s σ H o i v ov iv u Q I ro ri rv) (h' pins s σ H o i v ov iv u Q I ro ri rv)
theorem sg_subE {ws : List Nat} (hu : X.A.units + 65 < cLine) (ho : SE X ct o fo) (hi : SE X ct i' fi) (hp : ct.prg = X.prog := by rfl) (hw : ct.wd = X.w := by rfl)
    (ha : ∀ v, assign (.Subscript o i' pos) X.env v = (do
      let ov ← holding [v] (eval o X.env)
      let iv ← holding [v, ov] (eval i' X.env)
      standAt pos
      holding [v, ov, iv] (setItem ov iv v)
      release [v, ov, iv] []) := by intro _; rfl) : SG X ct ws (.Subscript o i' pos) (gSE fo fi) :=
  PG.imp (pg_sub ho hi (PSet.or (PSet.or set_list (set_dict (by omega))) (set_dictN hu)) ha) fun v σ H Q ⟨ρ, M, env, d, r, he, dv, env', M', hf, hq⟩ => by
    obtain ⟨x, M1, h1, hf⟩ := bnd_some hf
    obtain ⟨y, M2, h2, hf⟩ := bnd_some hf
    refine ⟨ρ, M, env, r, he, x, M1, h1, fun ρ1 H1 e1 r1 w dw => ⟨ρ1, M1, env, r1, he.mono e1, y, M2, h2, fun ρ2 H2 e2 r2 u du => ?_⟩⟩
    split at hf
    · rename_i M3 hs
      cases hf
      have old : setD x y d M2 = some M' → (rSetL w u v H2 fun H' => Q σ H') := fun hs => by
        unfold setD at hs
        split at hs
        · split at hs
          · rename_i hm
            split at hs
            · rename_i j hj
              cases hs
              obtain ⟨a, vs, rfl, a1, a2, a3⟩ := r2.lst hm (dw.mono e2)
              cases du
              obtain ⟨r3, e3⟩ := r2.putL a1 (a3.set ((dv.mono e1).mono e2) j)
              exact ⟨a, vs, _, j, rfl, rfl, a2, by rw [← a3.length]; exact hj, hq ρ2 _ ((e1.trans e2).trans e3) r3 σ (((he.mono e1).mono e2).mono e3) .refl⟩
            · cases hs
          · cases hs
        · cases hs
      unfold setE at hs
      split at hs
      · split at hs
        · rename_i kvs hm
          split at hs
          · rename_i k hk
            split at hs
            · rename_i hl
              cases hs
              obtain ⟨a, vs, rfl, a1, a2, a3, a4⟩ := r2.dct hm (dw.mono e2)
              obtain rfl := keyD_of du hk
              have hlen : kvs.length = vs.length := by have := congrArg List.length a3; simpa using this
              obtain ⟨p1, p2⟩ := put_of (k := k) ((dv.mono e1).mono e2) a3 a4
              obtain ⟨oo, hm', hk'⟩ := r2.addr a1
              obtain ⟨r3, e3⟩ := r2.put (o := .dct (putDk kvs k d)) (o' := .dK (putK vs k v)) a1 ⟨_, upd_same, p1, p2.mono (Ext.soft (fun _ _ h => h) hk'.soft.1 hk'.soft.2)⟩
              exact .inl (.inr ⟨a, _, rfl, DPut.k a2 (hlen ▸ hl), hq ρ2 _ ((e1.trans e2).trans e3) r3 σ (((he.mono e1).mono e2).mono e3) .refl⟩)
            · cases hs
          · split at hs
            · split at hs
              · rename_i k hk
                cases hs
                obtain ⟨a, vs, rfl, a1, a2, a3, a4⟩ := r2.dct hm (dw.mono e2)
                have ev : vs = [] := List.length_eq_zero_iff.mp (by have := congrArg List.length a3; simpa using this.symm)
                subst ev
                refine .inr ⟨ρ2, a, [], [], y, k, rfl, .inr ⟨rfl, a2⟩, rfl, fun p hp => by simp at hp, .nil, hk, du, by decide, fun b u' eb ru => ?_⟩
                subst eb
                obtain ⟨ws', p1, p2, p3, p4, p5⟩ := put_ofN (kvs := []) (xs := []) (vs := []) hk du ((dv.mono e1).mono e2) ru rfl (fun p hp => by simp at hp) .nil .nil .nil
                obtain ⟨oo, hm', hk'⟩ := r2.addr a1
                have sf : Ext X.K ρ2 H2 ρ2 (upd H2 a (NDic X.prog X.w a (storedH [] k b u'))) := Ext.soft (fun _ _ h => h) hk'.soft.1 hk'.soft.2
                obtain ⟨r3, e3⟩ := r2.put (o := .dcn (putN [] k y d)) (o' := NDic X.prog X.w a (storedH [] k b u')) a1 ⟨_, ws', by rw [upd_same, hp, hw], p1, p2, p3.mono sf, p4.mono sf, p5⟩
                exact hq ρ2 _ ((e1.trans e2).trans e3) r3 σ (((he.mono e1).mono e2).mono e3) .refl
              · cases hs
            · cases hs
        · rename_i kvs hm
          split at hs
          · rename_i k hk
            split at hs
            · rename_i hl
              cases hs
              obtain ⟨a, xs, vs, rfl, a1, a2, a3, a4, a5, a6, a7⟩ := r2.dcn hm (dw.mono e2)
              have hlen : kvs.length = xs.length := by have := congrArg List.length a3; simpa using this
              refine .inr ⟨ρ2, a, kvs, xs, y, k, rfl, .inl (by rw [a2, hp, hw]), a3, a4, a5, hk, du, hlen ▸ hl, fun b u' eb ru => ?_⟩
              subst eb
              obtain ⟨ws', p1, p2, p3, p4, p5⟩ := put_ofN hk du ((dv.mono e1).mono e2) ru a3 a4 a5 a6 a7
              obtain ⟨oo, hm', hk'⟩ := r2.addr a1
              have sf : Ext X.K ρ2 H2 ρ2 (upd H2 a (NDic X.prog X.w a (storedH xs k b u'))) := Ext.soft (fun _ _ h => h) hk'.soft.1 hk'.soft.2
              obtain ⟨r3, e3⟩ := r2.put (o := .dcn (putN kvs k y d)) (o' := NDic X.prog X.w a (storedH xs k b u')) a1 ⟨_, ws', by rw [upd_same, hp, hw], p1, p2, p3.mono sf, p4.mono sf, p5⟩
              exact hq ρ2 _ ((e1.trans e2).trans e3) r3 σ (((he.mono e1).mono e2).mono e3) .refl
            · cases hs
          · cases hs
        · exact .inl (.inl (old hs))
      · exact .inl (.inl (old hs))
    · cases hf
/-- d.get(k) -/
def fDGet (fo fe : FE) : FE := fun env M => bnd (fo env M) fun d M1 => match d with
  | .loc n => match M1[n]? with
    | some (.dct _) => bnd (fe env M1) fun y M2 => match M2[n]?, keyD y with
      | some (.dct kvs), some k => some ((valD kvs k).getD .non, M2)
      | _, _ => none
    | _ => none
  | _ => none
theorem se_dget {apos cpos : Pos} (hu : X.A.units + 65 < cLine) (ho : SE X ct o fo) (he : SE X ct e fe) (m : M1 X o "get" apos e cpos) : SE X ct (.Call (.Attribute o "get" apos) [e] [] cpos) (fDGet fo fe) :=
  PE.imp (pe_dget1 (by omega) ho he m) fun σ H Q ⟨ρ, M, env, r, hen, d, M', hf, hq⟩ => by
    obtain ⟨x, N1, h1, hf⟩ := bnd_some hf
    refine ⟨ρ, M, env, r, hen, x, N1, h1, fun ρ1 H1 e1 r1 w dw => ?_⟩
    split at hf
    · split at hf
      · rename_i hm
        obtain ⟨a, vs, rfl, a1, a2, a3, a4⟩ := r1.dct hm dw
        obtain ⟨y, N2, h2, hf⟩ := bnd_some hf
        refine ⟨a, rfl, .inl ⟨vs, .inl a2⟩, ρ1, N1, env, r1, hen.mono e1, y, N2, h2, fun ρ2 H2 e2 r2 u du => ?_⟩
        split at hf
        · rename_i kvs k hm2 hk
          cases hf
          obtain ⟨b, vs2, eb, b1, b2, b3, b4⟩ := r2.dct hm2 (dw.mono e2)
          cases eb
          obtain rfl := keyD_of du hk
          refine ⟨_, DGet.k b2, hq ρ2 H2 (e1.trans e2) r2 _ ?_⟩
          obtain ⟨i1, i2⟩ := val_of (k := k) b3 b4
          cases ev : valD kvs k with
          | none => rw [i2 ev]; exact .non
          | some dd => obtain ⟨v, e3, dv⟩ := i1 dd ev; rw [e3]; exact dv
        · cases hf
      · cases hf
    · cases hf
end
end Zl

/-! text Z18 -/
namespace Zl
open PySem L2 PySem.Spec PyProof.Rows
/-! ## range, counting down -/
section
variable {X : Cx} {ct : Ct} {pos p : Pos} {tg a b c : Expr} {fa fb fc : FE}
def srcC (lo c : Int) (n : Nat) : Src := ⟨n, fun i _ => if i < n then some (some (.int (lo + i * c))) else some none⟩
theorem feeds_rngC {K : Frg} {ρ0 : List Addr} {H0 : Hp} {lo c : Int} {n : Nat} : Feeds K ct ρ0 H0 (Itc lo c n) (srcC lo c n).stp := by
  intro i ρ M H _ r
  show (match (if i < n then some (some (Dv.int (lo + i * c))) else some none) with | some (some d) => _ | some none => _ | none => _)
  by_cases hi : i < n
  · rw [if_pos hi]
    refine ⟨hi, fun y H' hy => ?_⟩
    obtain ⟨e, ey⟩ := hy
    subst e; subst ey
    exact ⟨.refl, r, .int _⟩
  · rw [if_neg hi]
    exact Nat.le_of_not_lt hi
def fRng3 (f g h : FE) : FI := fun env M => bnd (f env M) fun d M1 => bnd (g env M1) fun d2 M2 => bnd (h env M2) fun d3 M3 => match d, d2, d3 with
  | .int i, .int j, .int k => if k = -1 ∧ -(2 ^ 62) ≤ i ∧ i < 2 ^ 62 ∧ -(2 ^ 62) ≤ j ∧ j < 2 ^ 62 then some (srcC i (-1) (i - j).toNat, M3) else none
  | _, _, _ => none
theorem dvs_three {K : Frg} {ρ : List Addr} {H : Hp} {x y z : Dv} {vs : List V} (h : DVs K ρ H [x, y, z] vs) : ∃ u v w, vs = [u, v, w] ∧ DV K ρ H x u ∧ DV K ρ H y v ∧ DV K ρ H z w := by
  cases h with
  | cons h1 hr =>
    obtain ⟨v, w, rfl, h2, h3⟩ := dvs_two hr
    exact ⟨_, _, _, rfl, h1, h2, h3⟩
theorem si_range3 (hg : Gl X "range") (hm : X.mg "range" = none) (ha : SE X ct a fa) (hb : SE X ct b fb) (hc : SE X ct c fc)
    (hs : starEach [a, b, c] X.env = (false, eval a X.env) :: starEach [b, c] X.env := by rfl)
    (hs2 : starEach [b, c] X.env = (false, eval b X.env) :: starEach [c] X.env := by rfl)
    (hs3 : starEach [c] X.env = [(false, eval c X.env)] := by rfl)
    (hpl : (backTo pos (starEach [b, c] X.env)).any (·.1) = false := by rfl) : SI X ct tg (.Call (.Name "range" p) [a, b, c] [] pos) (fRng3 fa fb fc) :=
  PI.imp (pi_range3 hg hm (sa_cons ha (sa_cons hb (sa_cons hc sa_nil hs3) hs2) hs) hs hpl) fun σ H R ⟨ρ, M, env, r, he, src, M', hf, hq⟩ => by
    obtain ⟨d, M1, h1, hf⟩ := bnd_some hf
    obtain ⟨d2, M2, h2, hf⟩ := bnd_some hf
    obtain ⟨d3, M3, h3, hf⟩ := bnd_some hf
    refine ⟨ρ, M, env, r, he, [d, d2, d3], M3, by show bnd (fa env M) _ = _; rw [h1]; show bnd (bnd (fb env M1) _) _ = _; rw [h2]; show bnd (bnd (bnd (fc env M2) _) _) _ = _; rw [h3]; rfl, fun ρ1 H1 e1 r1 vs dvs => ?_⟩
    split at hf
    · split at hf
      · rename_i hb
        cases hf
        obtain ⟨v, u, w, rfl, d1, d2, d3⟩ := dvs_three dvs
        cases d1; cases d2; cases d3
        obtain ⟨rfl, b1, b2, b3, b4⟩ := hb
        exact ⟨_, _, _, _, rfl, RgC.neg b1 b2 b3 b4, hq ρ1 H1 e1 r1 _ feeds_rngC⟩
      · cases hf
    · cases hf
end
end Zl

/-! text Z19 -/
namespace Zl
open PySem L2 PySem.Spec PyProof.Rows
section
variable {X : Cx} {ct : Ct}
/-! xs.remove(k): a list of whole numbers, k among them -/
def intsOf : List Dv → Option (List Int)
  | [] => some []
  | .int i :: ds => match intsOf ds with
    | some is => some (i :: is)
    | none => none
  | _ => none
theorem intsOf_eq : ∀ {ds : List Dv} {is : List Int}, intsOf ds = some is → ds = is.map .int
  | [], _, h => by cases h; rfl
  | .int i :: ds, is, h => by
    unfold intsOf at h
    split at h
    · rename_i js e
      cases h
      rw [intsOf_eq e]; rfl
    · cases h
  | .non :: _, _, h => by cases h
  | .bl _ :: _, _, h => by cases h
  | .str _ :: _, _, h => by cases h
  | .tup _ :: _, _, h => by cases h
  | .pr _ :: _, _, h => by cases h
  | .rol _ :: _, _, h => by cases h
  | .loc _ :: _, _, h => by cases h
  | .ty _ :: _, _, h => by cases h
theorem intsOf_map : ∀ is : List Int, intsOf (is.map .int) = some is
  | [] => rfl
  | i :: is => by
    show (match intsOf (is.map .int) with | some js => some (i :: js) | none => none) = _
    rw [intsOf_map]
theorem vs_ints {K : Frg} {ρ : List Addr} {H : Hp} : ∀ {is : List Int} {vs : List V}, DVs K ρ H (is.map .int) vs → vs = is.map V.int
  | [], _, h => by cases h; rfl
  | i :: is, _, h => by
    cases h with
    | cons a b =>
      cases a
      rw [vs_ints b]; rfl
theorem ints_dvs {K : Frg} {ρ : List Addr} {H : Hp} : ∀ (is : List Int), DVs K ρ H (is.map .int) (is.map V.int)
  | [] => .nil
  | i :: is => .cons (.int i) (ints_dvs is)
def removeD : FM
  | .loc n, [.int k], M => match M[n]? with
    | some (.lst ys) => match intsOf ys with
      | some is => if k ∈ is then some (.non, M.set n (.lst ((is.erase k).map .int))) else none
      | none => none
    | _ => none
  | _, _, _ => none
theorem sm_remove : SM X ct "list.remove" removeD := by
  intro pins s σ H x xs v us Q I rx rxs w
  obtain ⟨ρ, M, d, ds, r, dx, dxs, z, M', hf, hq⟩ := w
  unfold removeD at hf
  split at hf
  · split at hf
    · rename_i hm
      split at hf
      · rename_i is hi
        split at hf
        · rename_i hk
          cases hf
          have hy := intsOf_eq hi
          subst hy
          obtain ⟨l, vs, rfl, a1, hH, a3⟩ := r.lst hm dx
          have hv := vs_ints a3
          subst hv
          obtain ⟨y, rfl, dy⟩ := dvs_one dxs
          cases dy
          obtain ⟨u, rfl, ru⟩ := vals1 rxs
          obtain ⟨t, rfl⟩ := ru
          cases rx
          rename_i n k _o1 _o2
          obtain ⟨r2, e2⟩ := r.putL a1 (ints_dvs (K := X.K) (ρ := ρ) (H := H) (is.erase k))
          obtain ⟨z, its, n', rr, hl, e0⟩ := I.lstM hH
          have hi' : IntsAre its is := intsAre_of rr
          have heq := eq_isInt k t hi'
          have hnl : is.length = its.length := by rw [← hl, List.length_map]
          have hsz : its.toArray.size ≤ sizeLine := by rw [List.size_toArray, ← hl]; exact z
          obtain ⟨j, j1, j2, j3, j4⟩ := first_at hk
          have hj : j < its.length := by omega
          refine call_meets PySem.F.slot_list_remove ⟨_, e0, rfl⟩ PySem.F.entry_list_remove (PySem.F.args_list_remove_2 _ _)
            (MeetsSeq.list_remove l its.toArray n' (.int k t) (isInt k) (fun y hy => heq y (by simpa using hy)) j (by rw [List.size_toArray]; exact hj) ?hit (fun i hi2 hlt => ?hno) hsz) ⟨e0, ?_⟩
          case hit =>
            show isInt k its[j] = true
            exact (L2.isInt_at k hi' j hj).mpr j2
          case hno =>
            have hi3 : i < its.length := by rw [List.size_toArray] at hi2; exact hi2
            show isInt k its[i] = false
            rw [Bool.eq_false_iff]
            intro w
            exact j3 i hlt ((L2.isInt_at k hi' i hi3).mp w)
          have r3 : Vals ((is.erase k).map V.int) (its.eraseIdx j) := by
            have w := rr.eraseIdx j
            rw [map_eraseIdx', j4] at w
            exact w
          refine ⟨.non, _, I.lset (its' := its.eraseIdx j) hH e0 ?_ r3 ?_, rfl, hq ρ _ e2 r2 _ .non⟩
          · show its.toArray.eraseIdxIfInBounds j = (its.eraseIdx j).toArray
            rw [List.eraseIdxIfInBounds_toArray]
          · rw [List.length_map]
            have := List.length_erase_le (a := k) (l := is)
            rw [List.length_map] at z
            omega
        · cases hf
      · cases hf
    · cases hf
  · cases hf
end
end Zl

/-! text Z20 -/
namespace Zl
open PySem L2 PySem.Spec PyProof.Rows
/-! ## [e for t in a for t1 in b] -/
def comp2F (it : Stp) (g : FG) (ft : FT) (fi1 : FI) (vs1 : List Nat) (g1 : FG) (ft1 : FT) (fe : FE) (e0 : En) (n : Nat) : Nat → Nat → Mem → Option Mem
  | 0, i, M => match it i M with
    | some none => some M
    | _ => none
  | k + 1, i, M => match it i M with
    | some none => some M
    | some (some d) => match g d e0 M with
      | some (e1, M1) => match ft e1 M1 with
        | some (true, M2) => match fi1 e1 M2 with
          | some (src1, M3) => match compF src1.stp g1 ft1 fe (wipeE e1 vs1) n src1.many 0 M3 with
            | some M4 => comp2F it g ft fi1 vs1 g1 ft1 fe e0 n k (i + 1) M4
            | none => none
          | none => none
        | some (false, M2) => comp2F it g ft fi1 vs1 g1 ft1 fe e0 n k (i + 1) M2
        | none => none
      | none => none
    | none => none
def fComp2 (fi : FI) (vs : List Nat) (g : FG) (ft : FT) (fi1 : FI) (vs1 : List Nat) (g1 : FG) (ft1 : FT) (fe : FE) : FE := fun env M => bnd (fi env M) fun src M1 =>
  match comp2F src.stp g ft fi1 vs1 g1 ft1 fe (wipeE env vs) M1.length src.many 0 (M1 ++ [.lst []]) with
  | some M2 => some (.loc M1.length, M2)
  | none => none
section
variable {X : Cx} {ct : Ct} {tg iter tg1 iter1 : Expr} {pos : Pos} {fe : FE} {fi fi1 : FI} {g g1 : FG}
theorem lc2_imp {vs vs1 : List Nat} {ft ft1 : FT} {σ : L2.St} {H : Hp} {Q : VK} (w : tE X.K ct (fComp2 fi vs g ft fi1 vs1 g1 ft1 fe) σ H Q) : tLc2 (tI X.K ct fi) (tG X.K ct vs g) (tT X.K ct ft) (tI X.K ct fi1) (tG X.K ct vs1 g1) (tT X.K ct ft1) (tE X.K ct fe) vs vs1 σ H Q := by
  obtain ⟨ρ, M, env, r, he, d, M', hf, hq⟩ := w
  obtain ⟨src, M1, h1, hf⟩ := bnd_some hf
  split at hf
  · rename_i M2 hc
    cases hf
    refine ⟨ρ, M, env, r, he, src, M1, h1, fun ρ0 H0 e0 r0 J hJ D hD => ?_⟩
    obtain ⟨rN, xN, aN⟩ := r0.newL hD (.nil : DVs X.K ρ0 H0 [] [])
    refine ⟨fun i m H => ∃ ρ M, Ext X.K ρ0 H0 ρ H ∧ Rl X.K ct ρ M H ∧ ρ[M1.length]? = some D ∧ comp2F src.stp g ft fi1 vs1 g1 ft1 fe (wipeE env vs) M1.length m i M = some M' ∧ Aft X.K ct ρ H M' fun ρ' H' => ∀ v, DV X.K ρ' H' (.loc M1.length) v → Q v H',
      ⟨src.many, ρ0 ++ [D], _, xN, rN, aN, hc, (hq.later e0).later xN⟩, ?_⟩
    rintro i m H ⟨ρ, M, x0, r, aD, hf, hq⟩
    have hj := hJ i ρ M H x0 r
    have he' := ((he.mono e0).mono x0).wipe vs
    cases q : src.stp i M with
    | none =>
      cases m with
      | zero => rw [comp2F, q] at hf; cases hf
      | succ m => rw [comp2F, q] at hf; cases hf
    | some o =>
      rw [q] at hj
      cases o with
      | none =>
        have e : some M = some M' := by
          cases m with
          | zero => rw [comp2F, q] at hf; exact hf
          | succ m => rw [comp2F, q] at hf; exact hf
        cases e
        exact .inl ⟨hj, hq ρ H .refl r _ (.loc aD)⟩
      | some d =>
        cases m with
        | zero => rw [comp2F, q] at hf; cases hf
        | succ m =>
          rw [comp2F, q] at hf
          dsimp only at hf
          refine .inr ⟨hj.1, fun H' => ∃ ρ M, Ext X.K ρ0 H0 ρ H' ∧ Rl X.K ct ρ M H' ∧ ρ[M1.length]? = some D ∧ comp2F src.stp g ft fi1 vs1 g1 ft1 fe (wipeE env vs) M1.length m (i + 1) M = some M' ∧ Aft X.K ct ρ H' M' fun ρ' H' => ∀ v, DV X.K ρ' H' (.loc M1.length) v → Q v H',
            fun H' n => ⟨m, Nat.lt_succ_self m, n⟩, fun x H' hy => ?_⟩
          obtain ⟨y1, y2, y3⟩ := hj.2 x H' hy
          split at hf
          · rename_i e1 N1 gg1
            refine ⟨ρ, M, wipeE env vs, d, y2, he'.mono y1, y3, e1, N1, gg1, fun ρ1 H1 x1 r1 σ1 en1 oe => ⟨wipe_eq oe, ?_⟩⟩
            split at hf
            · rename_i N2 g2
              refine ⟨ρ1, N1, e1, r1, en1, true, N2, g2, fun ρ2 H2 x2 r2 => ?_⟩
              dsimp only
              rw [if_pos rfl]
              split at hf
              · rename_i src1 N3 g3
                split at hf
                · rename_i N4 hc1
                  refine ⟨ρ2, N2, e1, r2, en1.mono x2, src1, N3, g3, fun ρ3 H3 x3 r3 J1 hJ1 => ?_⟩
                  have xx := ((y1.trans x1).trans x2).trans x3
                  have en3 := (en1.mono x2).mono x3
                  refine ⟨fun j k H => ∃ ρ M, Ext X.K ρ3 H3 ρ H ∧ Rl X.K ct ρ M H ∧ ρ[M1.length]? = some D ∧ compF src1.stp g1 ft1 fe (wipeE e1 vs1) M1.length k j M = some N4,
                    ⟨src1.many, ρ3, N3, .refl, r3, xx.pre _ _ aD, hc1⟩, ?_⟩
                  rintro j k H5 ⟨ρ5, M5, x5, r5, aD5, hf5⟩
                  have hj1 := hJ1 j ρ5 M5 H5 x5 r5
                  have en5 := (en3.mono x5).wipe vs1
                  cases q1 : src1.stp j M5 with
                  | none =>
                    cases k with
                    | zero => rw [compF, q1] at hf5; cases hf5
                    | succ k => rw [compF, q1] at hf5; cases hf5
                  | some o =>
                    rw [q1] at hj1
                    cases o with
                    | none =>
                      have e : some M5 = some N4 := by
                        cases k with
                        | zero => rw [compF, q1] at hf5; exact hf5
                        | succ k => rw [compF, q1] at hf5; exact hf5
                      cases e
                      exact .inl ⟨hj1, ρ5, _, x0.trans (xx.trans x5), r5, aD5, hf, hq.later (xx.trans x5)⟩
                    | some d5 =>
                      cases k with
                      | zero => rw [compF, q1] at hf5; cases hf5
                      | succ k =>
                        rw [compF, q1] at hf5
                        dsimp only at hf5
                        refine .inr ⟨hj1.1, fun H' => ∃ ρ M, Ext X.K ρ3 H3 ρ H' ∧ Rl X.K ct ρ M H' ∧ ρ[M1.length]? = some D ∧ compF src1.stp g1 ft1 fe (wipeE e1 vs1) M1.length k (j + 1) M = some N4,
                          fun H' n => ⟨k, Nat.lt_succ_self k, n⟩, fun x H' hy => ?_⟩
                        obtain ⟨z1, z2, z3⟩ := hj1.2 x H' hy
                        split at hf5
                        · rename_i e6 N6 g6
                          refine ⟨ρ5, M5, wipeE e1 vs1, d5, z2, en5.mono z1, z3, e6, N6, g6, fun ρ6 H6 x6 r6 σ6 en6 oe6 => ⟨wipe_eq oe6, ?_⟩⟩
                          split at hf5
                          · rename_i N7 g7
                            refine ⟨ρ6, N6, e6, r6, en6, true, N7, g7, fun ρ7 H7 x7 r7 => ?_⟩
                            dsimp only
                            rw [if_pos rfl]
                            split at hf5
                            · rename_i y N8 g8
                              refine ⟨ρ7, N7, e6, r7, en6.mono x7, y, N8, g8, fun ρ8 H8 x8 r8 v dv => ?_⟩
                              split at hf5
                              · rename_i acc hm
                                split at hf5
                                · rename_i hl
                                  have xx8 := ((z1.trans x6).trans x7).trans x8
                                  have aD8 := xx8.pre _ _ aD5
                                  obtain ⟨b, ws, eb, b1, b2, b3⟩ := r8.lst hm (.loc aD8)
                                  cases eb
                                  obtain ⟨r9, x9⟩ := r8.putL aD8 (b3.append (.cons dv .nil))
                                  exact ⟨ws, b2, by rw [← b3.length]; exact hl, ρ8, _, (x5.trans xx8).trans x9, r9, aD8, hf5⟩
                                · cases hf5
                              · cases hf5
                            · cases hf5
                          · rename_i N7 g7
                            refine ⟨ρ6, N6, e6, r6, en6, false, N7, g7, fun ρ7 H7 x7 r7 => ?_⟩
                            dsimp only
                            rw [if_neg (by decide)]
                            have xx7 := (z1.trans x6).trans x7
                            exact ⟨ρ7, N7, x5.trans xx7, r7, xx7.pre _ _ aD5, hf5⟩
                          · cases hf5
                        · cases hf5
                · cases hf
              · cases hf
            · rename_i N2 g2
              refine ⟨ρ1, N1, e1, r1, en1, false, N2, g2, fun ρ2 H2 x2 r2 => ?_⟩
              dsimp only
              rw [if_neg (by decide)]
              have xx := (y1.trans x1).trans x2
              exact ⟨ρ2, N2, x0.trans xx, r2, xx.pre _ _ aD, hf, hq.later xx⟩
            · cases hf
          · cases hf
  · cases hf
theorem se_comp2 {elt : Expr} {ifs ifs1 : List Expr} {scope : Scope} {own : List (Str × Nat)} {vs1 : List Nat} {ft ft1 : FT} (hc : X.calm = true) (hN : X.N.Nodup) (hi : SI X ct tg iter fi) (ok : BlkOk X.N X.env.scope scope own) (hv : ∀ i ∈ vs1, i ∈ own.map (·.2))
    (hg : ∀ s H C cl fp, SG (Cx.cb X scope s H C cl fp) ct (own.map (·.2)) tg g) (ht : ∀ s H C cl fp, STs (Cx.cb X scope s H C cl fp) ct ifs ft)
    (hi1 : ∀ s H C cl fp, SI (Cx.cb X scope s H C cl fp) ct tg1 iter1 fi1)
    (hg1 : ∀ s H C cl fp, SG (Cx.cb X scope s H C cl fp) ct vs1 tg1 g1) (ht1 : ∀ s H C cl fp, STs (Cx.cb X scope s H C cl fp) ct ifs1 ft1)
    (he : ∀ s H C cl fp, SE (Cx.cb X scope s H C cl fp) ct elt fe) (hs : ∀ x, foldedSetIterable iter X.env x = pure x := by intro _; rfl) (hs1 : ∀ env x, foldedSetIterable iter1 env x = pure x := by intro _ _; rfl) :
    SE X ct (.ListComp elt [⟨tg, iter, ifs, 0⟩, ⟨tg1, iter1, ifs1, 0⟩] scope pos) (fComp2 fi (own.map (·.2)) g ft fi1 vs1 g1 ft1 fe) :=
  PE.imp (pe_lc2 hc hN hi ok hv hg ht hi1 hg1 ht1 he hs hs1) fun _ _ _ w => lc2_imp w
end
end Zl

/-! text Z21 -/
namespace Zl
open PySem L2 PySem.Spec PyProof.Rows
/-! ## {k: v}, the key a nested tuple -/
def fDict1N (fk fv : FE) : FE := fun env M => bnd (fk env (M ++ [.dct []])) fun kd M1 => bnd (fv env M1) fun vd M2 => match M2[M.length]? with
  | some (.dct []) => match keyN kd with
    | some k => some (.loc M.length, M2.set M.length (.dcn (putN [] k kd vd)))
    | none => none
  | _ => none
section
variable {X : Cx} {ct : Ct} {pos : Pos} {k v : Expr} {fk fv : FE}
theorem se_dict1N (hu : X.A.units + 65 < cLine) (hk : SE X ct k fk) (hv : SE X ct v fv) (hp : ct.prg = X.prog := by rfl) (hw : ct.wd = X.w := by rfl) : SE X ct (.Dict [some k] [v] pos) (fDict1N fk fv) := by
  refine ⟨fun pins s σ H Q I h => ?_⟩
  obtain ⟨ρ, M, env, r, he, d, M', hf, hq⟩ := h
  obtain ⟨kd, M1, h1, hf⟩ := bnd_some hf
  obtain ⟨vd, M2, h2, hf⟩ := bnd_some hf
  have hn := I.hok.fresh (Nat.le_refl s.heap.objs.size)
  have I1 := I.laid (a := s.heap.objs.size) (o := .dK []) (h' := s.heap.push { cls := .type "dict", data := .dict #[] }) (t' := s.toks) (fun _ _ q => Heap.get?_push_of_some _ q) (Nat.le_refl _) (dk_empty s.heap I.big)
  obtain ⟨r1, x1, a1⟩ := r.new (o := .dct []) (o' := .dK []) hn ⟨[], upd_same, rfl, .nil⟩
  have room : (nestedKind X.prog X.w).room X.A := by show X.A.units + 8 < cLine; omega
  rw [arm_eval_Dict, zip_pairTrees [some k] [v] X.env pos rfl rfl, dictDisplay_pairs (pairTrees [some k] [v] X.env pos) (by intro z; cases z) (by show 1 < 17; decide)]
  refine wpAny_bind (wpAny_standAt (wpAny_bind (wpAny_subDictH (knd := nestedKind X.prog X.w) (Q := fun d s' => wpAny (model X.prog X.w) X.A (pure (Value.ref d)) (EP X pins σ Q) X.xe s') room (by show 1 ≤ 15; decide)
    (thn ((pps_cons hk hv pps_nil).run pins _ σ _ (fun ps H3 => ∃ ρ3 x y, ps = [(x, y)] ∧ Ext X.K (ρ ++ [s.heap.objs.size]) (upd H s.heap.objs.size (.dK [])) ρ3 H3 ∧ Rl X.K ct ρ3 M2 H3 ∧ DV X.K ρ3 H3 kd x ∧ DV X.K ρ3 H3 vd y) I1
      ⟨ρ ++ [s.heap.objs.size], M ++ [.dct []], env, r1, he.mono x1, kd, M1, h1, fun ρ2 H2 e2 r2 x dx => ⟨ρ2, M1, env, r2, (he.mono x1).mono e2, vd, M2, h2, fun ρ3 H3 e3 r3 y dy => ⟨ρ3, x, y, rfl, e2.trans e3, r3, dx.mono e3, dy⟩⟩⟩) ?_))))
  rintro ws s2 ⟨ps, H2, I2, rel, ρ3, x, y, rfl, e3, r3, dx, dy⟩
  cases rel with
  | cons rl rt =>
    cases rt
    rename_i uu
    obtain ⟨u1, u2⟩ := uu
    obtain ⟨ru1, ru2⟩ := rl
    split at hf
    · rename_i hm
      split at hf
      · rename_i k0 hk0
        cases hf
        obtain ⟨b, rfl, eb, ki⟩ := key_is I2 dx ru1 hk0
        have a3 := e3.pre _ _ a1
        obtain ⟨a, vs, ea, b1, b2, b3, b4⟩ := r3.dct hm (.loc a3)
        cases ea
        have ev : vs = [] := List.length_eq_zero_iff.mp (by have := congrArg List.length b3; simpa using this.symm)
        subst ev
        obtain ⟨dd, ds⟩ := dn_empty I2 b2
        refine ⟨[(k0, b, u2)], ⟨eb, rfl, ki, trivial⟩, dd, fun h' tk dd' sb => wpAny_pure ?_⟩
        have he' : ∃ u, h'.get? s.heap.objs.size = some u := by
          obtain ⟨o, _, _, ho, _⟩ := dd'
          exact ⟨o, ho⟩
        have hst : storedAllH [] [(k0, b, u2)] = storedH [] k0 b u2 := rfl
        rw [hst] at dd'
        have hlen : (storedH ([] : List (NestedKey × Addr × Value)) k0 b u2).length ≤ sizeLine := by
          have := storedH_length ([] : List (NestedKey × Addr × Value)) k0 b u2
          have h0 : (1 : Nat) ≤ sizeLine := by decide
          simp only [List.length_nil] at this
          omega
        obtain ⟨ws', p1, p2, p3, p4, p5⟩ := put_ofN (kvs := []) (xs := []) (vs := []) hk0 dx dy ru2 rfl (fun p hp => by simp at hp) .nil .nil .nil
        obtain ⟨oo, hm', hk'⟩ := r3.addr a3
        have sf : Ext X.K ρ3 H2 ρ3 (upd H2 s.heap.objs.size (NDic X.prog X.w s.heap.objs.size (storedH [] k0 b u2))) := Ext.soft (fun _ _ h => h) hk'.soft.1 hk'.soft.2
        obtain ⟨r4, e4⟩ := r3.put (o := .dcn (putN [] k0 kd vd)) (o' := NDic X.prog X.w s.heap.objs.size (storedH [] k0 b u2)) a3 ⟨_, ws', by rw [upd_same, hp, hw], p1, p2, p3.mono sf, p4.mono sf, p5⟩
        refine ⟨.ref s.heap.objs.size, _, I2.write (e := s.heap.objs.size) (t' := tk) (by rw [b2]; trivial) (.inl rfl) (fun b u hb hu => (sb.2 b hb).trans hu) he' (ndic_new dd' hlen ds), rfl, ?_⟩
        exact hq ρ3 _ ((x1.trans e3).trans e4) r4 _ (.loc (e4.pre _ _ a3))
      · cases hf
    · cases hf
end
end Zl

/-! text Z22 -/
namespace Zl
open PySem L2 PySem.Spec PyProof.Rows
/-! ## set(list of whole numbers) -/
def dedupI (is : List Int) : List Int := PyProof.Rows.firstMet (fun i => is.getD i 0) is.length
def setOfD : List Dv → Mem → Rz
  | [.loc n], M => match M[n]? with
    | some (.lst ys) => match intsOf ys with
      | some is => if is.length < 4000 then some (.loc M.length, M ++ [.st (dedupI is)]) else none
      | none => none
    | _ => none
  | _, _ => none
section
variable {X : Cx} {ct : Ct}
theorem sc_set (hc : X.calm = true) : SC X ct (.type "set") setOfD := by
  intro pins s σ H xs us Q I rv h
  obtain ⟨ρ, M, ds, r, dv, z, M', hf, hq⟩ := h
  unfold setOfD at hf
  split at hf
  · split at hf
    · rename_i ys hm
      split at hf
      · rename_i is hi
        split at hf
        · rename_i hl
          cases hf
          have hy := intsOf_eq hi
          subst hy
          obtain ⟨v, rfl, d1⟩ := dvs_one dv
          obtain ⟨l, vs, rfl, a1, hH, a3⟩ := r.lst hm d1
          have hv := vs_ints a3
          subst hv
          obtain ⟨u, rfl, ru⟩ := vals1 rv
          cases ru
          obtain ⟨its, rvv, pl, hz⟩ := I.list (SqL.of hH)
          have hia : IntsAre its is := intsAre_of rvv
          have hlen : its.length = is.length := by have := rvv.length; simpa using this.symm
          have hn : H s.heap.objs.size = none := I.hok.fresh (Nat.le_refl _)
          refine call_set_list (ns := is) (I.ok.hd hc) pl.isList (by simpa using hia) (by
            have h4 : 4001 < scanBound := by decide
            rw [List.size_toArray, hlen]; omega) fun h' tk R keep => ?_
          have hsz : its.toArray.size = is.length := by simpa using hlen
          rw [hsz] at R
          obtain ⟨r2, e2, h2⟩ := r.new (o := .st (dedupI is)) (o' := .set (fun k => (dedupI is).any (· == k)) (dedupI is).length) hn upd_same
          exact ⟨.ref s.heap.objs.size, _, I.laid (o := .set (fun k => (dedupI is).any (· == k)) (dedupI is).length) (t' := tk) (fun b u e => keep b u (Heap.lt_size e) e) (Nat.le_refl _) R, rfl, hq _ _ e2 r2 _ (.loc h2)⟩
        · cases hf
      · cases hf
    · cases hf
  · cases hf
/-- *e, a tuple, in a display or in a list of arguments -/
theorem sa_star {e : Expr} {es : List Expr} {p : Pos} {fa : FE} {fr : FA} (h : SE X ct e fa) (k : SA X ct es fr) (hs : starEach (.Starred e p :: es) X.env = (true, eval e X.env) :: starEach es X.env := by rfl) : SA X ct (.Starred e p :: es) (fStar fa fr) :=
  PA.imp (StX.pa_star h k hs) fun σ H Q ⟨ρ, M, env, r, he, d, M', hf, hq⟩ => by
    obtain ⟨x, M1, h1, hf⟩ := bnd_some hf
    split at hf
    · rename_i zs
      obtain ⟨ys, M2, h2, hf⟩ := bnd_some hf
      cases hf
      refine ⟨ρ, M, env, r, he, _, M1, h1, fun ρ1 H1 e1 r1 v dv => ?_⟩
      cases dv with
      | tup td ds =>
        exact ⟨_, _, rfl, .inl td.sq, ρ1, M1, env, r1, he.mono e1, ys, _, h2, fun ρ2 H2 e2 r2 vs dvs => hq ρ2 H2 (e1.trans e2) r2 _ ((ds.mono e2).append dvs)⟩
    · cases hf
/-- {k: v}, the key a whole number or a text -/
def fDict1K (fk fv : FE) : FE := fun env M => bnd (fk env (M ++ [.dct []])) fun kd M1 => bnd (fv env M1) fun vd M2 => match M2[M.length]? with
  | some (.dct []) => match keyD kd with
    | some k => some (.loc M.length, M2.set M.length (.dct (putDk [] k vd)))
    | none => none
  | _ => none
theorem se_dict1K {k v : Expr} {fk fv : FE} {pos : Pos} (hk : SE X ct k fk) (hv : SE X ct v fv) : SE X ct (.Dict [some k] [v] pos) (fDict1K fk fv) :=
  PE.imp (pe_disp (pps_cons hk hv pps_nil) rfl rfl (by intro z; cases z) (by show 1 ≤ 15; decide)) fun σ H Q ⟨ρ, M, env, r, he, d, M', hf, hq⟩ p hp => by
    obtain ⟨kd, M1, h1, hf⟩ := bnd_some hf
    obtain ⟨vd, M2, h2, hf⟩ := bnd_some hf
    obtain ⟨r1, x1, a1⟩ := r.new (o := .dct []) (o' := .dK []) hp ⟨[], upd_same, rfl, .nil⟩
    refine ⟨ρ ++ [p], M ++ [.dct []], env, r1, he.mono x1, kd, M1, h1, fun ρ2 H2 e2 r2 x dx => ⟨ρ2, M1, env, r2, (he.mono x1).mono e2, vd, M2, h2, fun ρ3 H3 e3 r3 y dy => ?_⟩⟩
    split at hf
    · rename_i hm
      split at hf
      · rename_i k0 hk0
        cases hf
        have a3 := (e2.trans e3).pre _ _ a1
        obtain ⟨a, vs, ea, b1, b2, b3, b4⟩ := r3.dct hm (.loc a3)
        cases ea
        have ev : vs = [] := List.length_eq_zero_iff.mp (by have := congrArg List.length b3; simpa using this.symm)
        subst ev
        obtain rfl := keyD_of dx hk0
        obtain ⟨p1, p2⟩ := put_of (k := k0) dy b3 b4
        obtain ⟨oo, hm', hk'⟩ := r3.addr a3
        obtain ⟨r4, e4⟩ := r3.put (o := .dct (putDk [] k0 vd)) (o' := .dK (putK [] k0 y)) a3 ⟨_, upd_same, p1, p2.mono (Ext.soft (fun _ _ h => h) hk'.soft.1 hk'.soft.2)⟩
        exact ⟨b2, [(k0, y)], rfl, by show 1 ≤ 15; decide, hq ρ3 _ ((x1.trans (e2.trans e3)).trans e4) r4 _ (.loc (e4.pre _ _ a3))⟩
      · cases hf
    · cases hf
end
end Zl

/-! text Z23 -/
namespace Zl
open PySem L2 PySem.Spec PyProof.Rows
/-! ## properties, attributes that are added to, sets of texts, sorted(.., reverse=True) -/
section
variable {X : Cx} {ct : Ct} {k : Nat} {f C p g : Addr} {fd : FuncData} {ps : List Str} {F : FF} {fld : Str} {pos pos' : Pos} {e o v' : Expr} {fo fv : FE} {c : Nat}
/-- o.f, a property of the own class -/
def fProp (c : Nat) (fld : Str) (np : Nat) (F : FF) (fo : FE) : FE := fun env M => bnd (fo env M) fun d M1 => if isIns c fld d M1 = true ∧ 1 = np then F [d] M1 else none
theorem se_prop (ho : SE X ct o fo) (hc : ct c = some C) (cl : Cls X.K C) (hp : PropOf X.K C fld p g) (G : SF X ct k g fd ps F) (hr : Room (k + 1) X.A) (hgd : X.A.guards = some []) (hb : Binds X.K fd ps [])
    (hab : attributeBase o fld X.env (eval o X.env) = eval o X.env := by rfl) : SE X ct (.Attribute o fld pos) (fProp c fld ps.length F fo) := by
  refine ⟨fun pins s σ H Q I w => ?_⟩
  obtain ⟨ρ, M, env, r, hen, d, M', hf, hq⟩ := w
  obtain ⟨y, M1, h1, hf⟩ := bnd_some hf
  split at hf
  · rename_i hi
    refine attr_of hab (thn (ho.run pins s σ H (fun v H1 => ∃ ρ1, Ext X.K ρ H ρ1 H1 ∧ Rl X.K ct ρ1 M1 H1 ∧ DV X.K ρ1 H1 y v) I ⟨ρ, M, env, r, hen, y, M1, h1, fun ρ1 H1 e1 r1 v dv => ⟨ρ1, e1, r1, dv⟩⟩) fun u s1 z => ?_)
    obtain ⟨v, H1, I1, rv, ρ1, e1, r1, dv⟩ := z
    obtain ⟨a, dx, vfs, rfl, a3, a4⟩ := isIns_ok r1 dv hc hi.1
    obtain rfl : u = Value.ref a := rv
    obtain ⟨mA, O, _, _, _, _⟩ := ins_get I1.hok a3
    obtain ⟨od, J, _⟩ := O.look
    obtain ⟨rest, hrec⟩ := hp.rec_
    have I2 := I1.tok (s1.toks + 1)
    have hC : (PySem.W.clsIn X.K C).isSome = true := by obtain ⟨cd, q, _⟩ := PySem.W.any_some cl.hd; rw [q]; rfl
    have bt := hb { s1 with toks := s1.toks + 1 } [.ref a] I2.kIn (by simpa using hi.2)
    rw [List.append_nil] at bt
    refine PySem.W.get_bind I1.kIn J (PySem.W.plainGet_of (cl.get fld)).1 (PySem.W.findObj_data hC hp.at_ hp.get hp.tak) (PySem.W.plainGet_of (cl.get fld)).2 (wpAny_call (PySem.W.prop_get (s := { s1 with toks := s1.toks + 1 }) I1.kIn hrec ?_))
    refine codeAny_mono (G.run X.A.in1 X.stack { s1 with toks := s1.toks + 1 } H1 ⟨[.ref a], []⟩ [.ref a] [.ref a] Q E0 hr.in1 hgd I2.env0.in1 bt (.cons rfl .nil) (spF_use (ds := [y]) hi.2 e1 r1 (.cons dv .nil) hf hq)) fun z s' hz => ?_
    match z, hz with
    | .ok (.ret u), hz =>
      obtain ⟨v, H', I3, rv, q3⟩ := I2.after hz
      show wpAny _ _ (handedOut u) _ _ _; rw [PySem.W.handedOut_of (handed_of rv)]; exact wpAny_pure ⟨v, H', I3, rv, q3⟩
  · cases hf
/-- o.f op= e, whole numbers -/
def fFldAug (c : Nat) (fld : Str) (h : Int → Int → Int) (fo fv : FE) : FS := fun env M => bnd (fo env M) fun d M1 => match d with
  | .loc n => match M1[n]? with
    | some (.ins c' fs) => if c' = c then match fs.lookup fld with
        | some (.int i) => bnd (fv env M1) fun y M2 => match y with
          | .int j => match M2[n]? with
            | some (.ins c2 fs2) => if c2 = c ∧ fs2.length < 1000 then some (.nx env, M2.set n (.ins c (putD fld (.int (h i j)) fs2))) else none
            | _ => none
          | _ => none
        | _ => none
      else none
    | _ => none
  | _ => none
def rI2 (h : Int → Int → Int) : V → V → Hp → VK → Prop := fun x y H Q => ∃ i j, x = .int i ∧ y = .int j ∧ Q (.int (h i j)) H
theorem ia_add : InOp X .Add (rI2 fun i j => i + j) := in_add
theorem ia_sub : InOp X .Sub (rI2 fun i j => i - j) := in_sub
theorem ss_fldaug {op : Operator} {h : Int → Int → Int} (ho : SE X ct o fo) (hv : SE X ct v' fv) (hop : InOp X op (rI2 h)) (hc : ct c = some C) (cl : Cls X.K C) (na : NoAttr X.K C fld) :
    SS X ct (.AugAssign (.Attribute o fld pos') op v' pos) (fFldAug c fld h fo fv) :=
  PS.imp (ps_fldaug ho hv hop) fun D σ H ⟨ρ, M, env, r, he, fl, M', hf, hq⟩ => by
    obtain ⟨d, M1, h1, hf⟩ := bnd_some hf
    refine ⟨ρ, M, env, r, he, d, M1, h1, fun ρ1 H1 e1 r1 v dv => ?_⟩
    split at hf
    · split at hf
      · rename_i hm
        split at hf
        · rename_i hcc
          subst hcc
          split at hf
          · rename_i i hy
            obtain ⟨y, M2, h2, hf⟩ := bnd_some hf
            split at hf
            · rename_i j
              split at hf
              · rename_i hm2
                split at hf
                · rename_i hc2
                  cases hf
                  obtain ⟨hc2, hl⟩ := hc2
                  subst hc2
                  obtain ⟨a, C', dx, vfs, rfl, a1, a2, a3, a4⟩ := r1.ins hm dv
                  rw [hc] at a2; cases a2
                  obtain ⟨u, u1, u2⟩ := a4.look.1 _ hy
                  cases u2
                  refine ⟨a, C, dx, vfs, _, rfl, a3, cl, na, u1, ρ1, M1, env, r1, he.mono e1, _, M2, h2, fun ρ2 H2 e2 r2 w dw => ?_⟩
                  cases dw
                  obtain ⟨a', C', dx', vfs', ea', b1, b2, b3, b4⟩ := r2.ins hm2 (dv.mono e2)
                  cases ea'
                  rw [hc] at b2; cases b2
                  have xs : Ext X.K ρ2 H2 ρ2 (upd H2 a (.ins C dx' (putF fld (.int (h i j)) vfs'))) := Ext.soft (fun _ _ z => z) (fun _ q => by rw [b3] at q; cases q) fun _ _ q => by rw [b3] at q; cases q
                  obtain ⟨r3, e3⟩ := r2.put (o := .ins _ (putD fld (.int (h i j)) _)) (o' := .ins C dx' (putF fld (.int (h i j)) vfs')) b1 ⟨C, dx', _, hc, upd_same, (b4.put (.int _)).mono xs⟩
                  exact ⟨i, j, rfl, rfl, dx', vfs', b3, by rw [← b4.length]; exact hl, hq ρ2 _ ((e1.trans e2).trans e3) r3 σ (((he.mono e1).mono e2).mono e3)⟩
                · cases hf
              · cases hf
            · cases hf
          · cases hf
        · cases hf
      · cases hf
    · cases hf
end
/-! ### sets of texts -/
def dedS (xs : List Str) : List Str := xs.foldl (fun acc x => if x ∈ acc then acc else acc ++ [x]) []
theorem dedS_snoc {xs : List Str} {x : Str} : dedS (xs ++ [x]) = if x ∈ dedS xs then dedS xs else dedS xs ++ [x] := by
  unfold dedS
  rw [List.foldl_append]; rfl
theorem dedS_len : ∀ n (xs : List Str), xs.length = n → (dedS xs).length ≤ n
  | 0, xs, h => by rw [List.length_eq_zero_iff.mp h]; exact Nat.le_refl _
  | n + 1, xs, h => by
    obtain ⟨ys, y, rfl⟩ : ∃ ys y, xs = ys ++ [y] := ⟨xs.dropLast, xs.getLast (by intro z; rw [z] at h; cases h), (List.dropLast_concat_getLast _).symm⟩
    have h2 : ys.length = n := by simpa using h
    have := dedS_len n ys h2
    rw [dedS_snoc]
    split
    · omega
    · simp; omega
abbrev memS (ys : List Str) : Key → Bool := fun k => ys.any fun x => decide (k = Sum.inr x)
theorem memS_str {ys : List Str} {x : Str} : memS ys (Sum.inr x) = decide (x ∈ ys) := by
  induction ys with
  | nil => rfl
  | cons y ys ih =>
    show (decide ((Sum.inr x : Key) = Sum.inr y) || memS ys (Sum.inr x)) = _
    rw [ih]
    by_cases e : x = y
    · subst e; simp
    · simp [e]
theorem setK_eq {P : Program} {w : World} {h : Heap} {a : Addr} {S S' : Key → Bool} {n n' : Nat} (hS : h.SetOf (mixKind P w) a S n) (e : ∀ k, S k = S' k) (en : n = n') : h.SetOf (mixKind P w) a S' n' := by
  cases en; cases (funext e : S = S'); exact hS
section
variable {prog : Program} {w : World} {A : Around} {R : Result → Shared → Prop} {it : Addr} {fp wr : List Addr} {G : Array GenState → Array GenState → Prop} {n : Nat} {P : Nat → Value → Prop} {St : Nat → Shared → Prop}
theorem set_texts (W : WalksS prog w A.in1 it fp wr G n P St) (z : Addr) (hz : z ∉ fp) (xs : List Str) (hn : xs.length = n) (hb : n + 1 < scanBound) (hv : ∀ i v, P i v → ∃ x t, xs[i]? = some x ∧ v = .str x t) :
    ∀ (k i : Nat) (s : Shared), n - i = k → i ≤ n → St i s → s.heap.SetOf (mixKind prog w) z (memS (dedS (xs.take i))) (dedS (xs.take i)).length →
      (∀ s', Moved (z :: wr) G s s' → s'.heap.SetOf (mixKind prog w) z (memS (dedS xs)) (dedS xs).length → R (.ok (.ret .none)) s') →
      codeAny (model prog w) A (.builtin "set.update.loop" ⟨[.ref z, .ref it], []⟩) R s := by
  have zw : z ∉ wr := fun q => hz (W.sub _ q)
  have up : ∀ b ∈ wr, b ∈ z :: wr := fun b q => List.mem_cons_of_mem _ q
  intro k
  induction k with
  | zero =>
    intro i s hk hi st S0 fin
    obtain rfl : i = n := by omega
    refine codeAny_builtin PyProof.Rows.F.entry_set_update_loop ?_; rw [Around.under_plainId PyProof.Rows.F.plain_set_update_loop _]
    show wpAny _ A.in1 (pyNext (.ref it) >>= _) _ _ s
    refine wpAny_bind (W.done s _ _ st fun s' m => ?_)
    show wpAny _ A.in1 (ret Value.none) _ _ s'
    rw [← hn, List.take_length] at S0
    exact wpAny_pure (fin s' (m.mono up) (setOf_at S0 fun o q => m.heap z o zw q))
  | succ k ih =>
    intro i s hk hi st S0 fin
    have lt : i < n := by omega
    refine codeAny_builtin PyProof.Rows.F.entry_set_update_loop ?_; rw [Around.under_plainId PyProof.Rows.F.plain_set_update_loop _]
    show wpAny _ A.in1 (pyNext (.ref it) >>= _) _ _ s
    refine wpAny_bind (W.item i s _ _ lt st fun v s' pv st' m => ?_)
    obtain ⟨x, t, ex, rfl⟩ := hv i v pv
    have S1 := setOf_at S0 fun o q => m.heap z o zw q
    show wpAny _ A.in1 (holding [Value.str x t] (setAdd z (.str x t)) >>= _) _ _ s'
    refine wpAny_bind (wpAny_holding ?_); unfold setAdd
    refine wpAny_holding (wpAny_bind ((mixKind prog w).pyHash (k := Sum.inr x) (mixKind_str prog w x t) ?_))
    have few := dedS_len i (xs.take i) (by rw [List.length_take]; omega)
    refine wpAny_setAddHashed_of (knd := mixKind prog w) (s := { s' with toks := s'.toks + 1 }) (mixKind_str prog w x t) rfl S1 (by omega) fun h' sb S2 => ?_
    have S3 : h'.SetOf (mixKind prog w) z (memS (dedS (xs.take (i + 1)))) (dedS (xs.take (i + 1))).length := by
      have et : xs.take (i + 1) = xs.take i ++ [x] := by rw [List.take_add_one, ex]; rfl
      rw [et, dedS_snoc]
      rw [memS_str] at S2
      by_cases hm : x ∈ dedS (xs.take i)
      · rw [if_pos hm]
        rw [decide_eq_true hm, if_pos rfl] at S2
        refine setK_eq S2 (fun j => ?_) rfl
        by_cases e : j = Sum.inr x
        · subst e
          rw [memS_str, decide_eq_true hm]; rfl
        · rw [decide_eq_false e, Bool.or_false]
      · rw [if_neg hm]
        rw [decide_eq_false hm, if_neg (by decide)] at S2
        refine setK_eq S2 (fun j => ?_) (by simp)
        show _ = (dedS (xs.take i) ++ [x]).any _
        rw [List.any_append]
        simp
    refine wpAny_pure ⟨plainId_quiet PyProof.Rows.F.plain_set_update_loop _, ih (i + 1) _ (by omega) lt (W.frame _ s' _ _ st' (Nat.le_succ _) fun b q o e => ?_) S3 fun s2 m2 S4 => ?_⟩
    · rw [sb.2 b (fun y : b = z => hz (y ▸ q))]; exact e
    · refine fin s2 (Moved.trans W.gtrans ((m.mono up).then_heap (Nat.le_succ _) fun b o q e => ?_) m2) S4
      rw [sb.2 b (fun y : b = z => q (y ▸ List.mem_cons_self))]; exact e
end
section
variable {prog : Program} {w : World} {A : Around} {E : Value → Shared → Prop} {s : Shared}
set_option maxHeartbeats 8000000 in
/-- set(a tuple of texts) -/
theorem call_set_texts {l : Addr} {its : Array Value} {xs : List Str} {Q : Value → Shared → Prop} (hh : A.handled = none) (hl : s.heap.IsTuple l its) (hs : its.size = xs.length) (hi : ∀ (i : Nat) v, its[i]? = some v → ∃ x t, xs[i]? = some x ∧ v = .str x t) (hb : xs.length + 1 < scanBound)
    (k : ∀ (h' : Heap) (tk : Nat), h'.SetOf (mixKind prog w) s.heap.objs.size (memS (dedS xs)) (dedS xs).length → (∀ b o, b < s.heap.objs.size → s.heap.get? b = some o → h'.get? b = some o) → Q (.ref s.heap.objs.size) { s with heap := h', toks := tk }) :
    wpAny (model prog w) A (call (.type "set") [.ref l]) Q E s := by
  obtain ⟨c, tl, z1⟩ := PySem.F.called_set.mro
  have z2 := PySem.F.called_set.made; have z3 := PySem.F.called_set.sub; have z4 := PySem.F.called_set.notType; have z5 := PySem.F.called_set.canCreate; have z6 := PySem.F.typeCall_set_1 (.ref l)
  refine wpAny_call (codeAny_of_tree ?_); show wpAny _ _ (callAny (.type "set") _) _ _ _
  refine wpAny_pure ⟨Code.quiet_builtin _ (by decide +kernel), codeAny_builtin PySem.F.entry_type_call ?_⟩; rw [Around.under_plain (weight_type_call_type "set" [.ref l] []) rfl]
  repeat (any_goals (first | assumption | wp_step))
  refine codeAny_mono (code_set_new_1 (.ref l) (E := E) (Q₁ := fun y s1 => ∃ led : Bool, y = .ref s.heap.objs.size ∧ s1 = { s with heap := s.heap.push { cls := .type "set", dict := none, data := .set #[] 0 (.fresh 0 0 led) } }) fun led => ⟨led, rfl, rfl⟩) fun r s1 hr => ?_
  match r, hr with
  | .error e, hr => exact hr
  | .ok (.ret y), hr =>
    obtain ⟨led, rfl, rfl⟩ := hr
    have g0 : (s.heap.push { cls := .type "set", dict := none, data := .set #[] 0 (.fresh 0 0 led) }).get? s.heap.objs.size = some { cls := .type "set", dict := none, data := .set #[] 0 (.fresh 0 0 led) } := Heap.get?_push_size _ rfl
    have tS : Shared.TypeIs { s with heap := s.heap.push { cls := .type "set", dict := none, data := .set #[] 0 (.fresh 0 0 led) } } (.ref s.heap.objs.size) "set" := ⟨_, g0, rfl⟩
    have z7 := PySem.F.called_set.init.lookup; have z8 := PySem.F.called_set.init.bind (.ref s.heap.objs.size)
    repeat (any_goals (first | assumption | wp_step))
    refine codeAny_mono (codeAny_call_builtin (R := wants (fun r s2 => r = .none ∧ ∃ h' tk, s2 = { s with heap := h', toks := tk } ∧ h'.SetOf (mixKind prog w) s.heap.objs.size (memS (dedS xs)) (dedS xs).length ∧ (∀ b o, b < s.heap.objs.size → s.heap.get? b = some o → h'.get? b = some o)) E) PySem.F.called_set.init.plain PySem.F.entry_set_init (check_set_init_1 tS ?_)) fun r2 s2 hr2 => ?_
    · obtain ⟨⟨oc, od, odata, os⟩, ho, q1, nl, q2⟩ := hl
      simp only at q1 q2
      subst q1; subst q2
      have g1 : (s.heap.push { cls := .type "set", dict := none, data := .set #[] 0 (.fresh 0 0 led) }).get? l = some { cls := .type "tuple", dict := od, data := .seq its nl, slots := os } := Heap.get?_push_of_some _ ho
      have y1 := PySem.F.sub_tuple_set; have y2 := PySem.F.sub_tuple_frozenset
      have y3 : (Value.type "tuple" == Value.type "dict") = false := by decide
      have l1 : (s.heap.push { cls := .type "set", dict := none, data := .set #[] 0 (.fresh 0 0 led) }).IsTuple l its := ⟨_, g1, rfl, nl, rfl⟩
      unfold Builtin.«set.__init__» noKeywords Builtin.Frozenset.updateFrom; generalize hPI : pyIter = PI; wp_walk; subst hPI
      refine wpAny_pyIter_tuple l1 ?_
      refine wpAny_bind (wpAny_runValue ?_)
      have lS : l < s.heap.objs.size := Heap.lt_size ho
      have h3 : A.in1.in1.in1.handled = none := by simp [hh]
      have sz : (s.heap.push { cls := .type "set", dict := none, data := .set #[] 0 (.fresh 0 0 led) }).objs.size = s.heap.objs.size + 1 := Heap.size_push ..
      have ne : l ≠ (s.heap.push { cls := .type "set", dict := none, data := .set #[] 0 (.fresh 0 0 led) }).objs.size := by rw [sz]; exact Nat.ne_of_lt (Nat.lt_succ_of_lt lS)
      have nf : s.heap.objs.size ∉ [(s.heap.push { cls := .type "set", dict := none, data := .set #[] 0 (.fresh 0 0 led) }).objs.size, l] := by
        rw [sz]; simp only [List.mem_cons, List.not_mem_nil, or_false, not_or]; exact ⟨Nat.ne_of_lt (Nat.lt_succ_self _), Nat.ne_of_gt lS⟩
      refine set_texts ((Walks.tuple h3 _ l ne its).toS) s.heap.objs.size nf xs hs.symm (by omega) hi (its.size - 0) 0 _ (by omega) (Nat.zero_le _) ⟨⟨_, Heap.get?_push_size _ rfl, rfl, rfl⟩, (l1.push _)⟩ ?xa ?xb
      case xa =>
        have g2 : ((s.heap.push { cls := .type "set", dict := none, data := .set #[] 0 (.fresh 0 0 led) }).push { cls := .type "tuple_iterator", data := .fields #[.ref l, .int 0 0] }).get? s.heap.objs.size = some { cls := .type "set", dict := none, data := .set #[] 0 (.fresh 0 0 led) } := Heap.get?_push_of_some _ g0
        have fr : Heap.SetOf (mixKind prog w) _ s.heap.objs.size (fun _ => false) 0 := ⟨_, #[], 0, _, g2, ⟨rfl, rfl, rfl⟩, rfl, fun e he => by simp at he, fun k => by simp, by decide, by rfl, rfl⟩
        exact setK_eq fr (fun _ => rfl) rfl
      case xb =>
        intro s' m S'
        obtain ⟨h', g', d', tk', os'⟩ := s'
        obtain rfl : g' = s.gens := m.gens
        obtain rfl : d' = s.drawn := m.drawn
        obtain rfl : os' = s.os := m.os
        show wpAny _ _ _ _ _ _
        refine wpAny_pure ?_
        show wpAny _ _ (ret Value.none) _ _ _
        refine wpAny_pure ⟨rfl, h', tk', rfl, S', fun b o hb' e => ?_⟩
        exact m.heap b o (by rw [sz]; simp only [List.mem_cons, List.not_mem_nil, or_false, not_or]; exact ⟨Nat.ne_of_lt hb', Nat.ne_of_lt (Nat.lt_succ_of_lt hb')⟩) (Heap.get?_push_of_some _ (Heap.get?_push_of_some _ e))
    · match r2, hr2 with
      | .error e, hr2 => exact hr2
      | .ok (.ret y), hr2 =>
        obtain ⟨rfl, h', tk, rfl, S', keep⟩ := hr2
        repeat (any_goals (first | assumption | wp_step))
        exact k _ _ S' keep
end
end Zl

/-! text Z24 -/
namespace Zl
open PySem L2 PySem.Spec PyProof.Rows
def strsOf : List Dv → Option (List Str)
  | [] => some []
  | .str x :: ds => match strsOf ds with
    | some xs => some (x :: xs)
    | none => none
  | _ :: _ => none
theorem strsOf_eq : ∀ {ds : List Dv} {xs : List Str}, strsOf ds = some xs → ds = xs.map .str
  | [], xs, h => by cases h; rfl
  | d :: ds, xs, h => by
    unfold strsOf at h
    split at h
    · contradiction
    · rename_i x r e
      split at h
      · rename_i ys hy
        cases h
        cases e
        rw [strsOf_eq hy]; rfl
      · cases h
    · cases h
theorem strsOf_map : ∀ xs : List Str, strsOf (xs.map .str) = some xs
  | [] => rfl
  | x :: xs => by
    show (match strsOf (xs.map .str) with | some ys => some (x :: ys) | none => none) = _
    rw [strsOf_map xs]
theorem vs_strs {K : Frg} {ρ : List Addr} {H : Hp} : ∀ {xs : List Str} {vs : List V}, DVs K ρ H (xs.map .str) vs → vs = xs.map V.str
  | [], _, h => by cases h; rfl
  | x :: xs, _, h => by
    cases h with
    | cons a b =>
      cases a
      rw [vs_strs b]; rfl
theorem vals_strs : ∀ {xs : List Str} {us : List Value} {i : Nat} {u : Value}, Vals (xs.map V.str) us → us[i]? = some u → ∃ x t, xs[i]? = some x ∧ u = .str x t
  | [], _, i, u, h, e => by cases h; simp at e
  | x :: xs, _, 0, u, h, e => by
    cases h with
    | cons a b =>
      simp at e
      subst e
      obtain ⟨t, rfl⟩ := a
      exact ⟨x, t, rfl, rfl⟩
  | x :: xs, _, i + 1, u, h, e => by
    cases h with
    | cons a b =>
      obtain ⟨y, t, h1, h2⟩ := vals_strs (i := i) b (by simpa using e)
      exact ⟨y, t, by simpa using h1, h2⟩
def setOfE : List Dv → Mem → Rz
  | [.tup ys], M => match strsOf ys with
    | some xs => if xs.length < 4000 then some (.loc M.length, M ++ [.sk (dedS xs)]) else none
    | none => none
  | ds, M => setOfD ds M
section
variable {X : Cx} {ct : Ct}
theorem sc_setE (hc : X.calm = true) (hp : ct.prg = X.prog := by rfl) (hw : ct.wd = X.w := by rfl) : SC X ct (.type "set") setOfE := by
  intro pins s σ H xs us Q I rv h
  obtain ⟨ρ, M, ds, r, dv, z, M', hf, hq⟩ := h
  unfold setOfE at hf
  split at hf
  · split at hf
    · rename_i ws hx
      split at hf
      · rename_i hl
        cases hf
        have hy := strsOf_eq hx
        subst hy
        obtain ⟨v, rfl, d1⟩ := dvs_one dv
        cases d1 with
        | @tup _ vs l td dd =>
          have hv := vs_strs dd
          subst hv
          obtain ⟨u, rfl, ru⟩ := vals1 rv
          cases ru
          obtain ⟨its, rvv, pl, hz⟩ := I.tuple td.sq
          have hlen : its.length = ws.length := by have := rvv.length; simpa using this.symm
          have hn : H s.heap.objs.size = none := I.hok.fresh (Nat.le_refl _)
          refine call_set_texts (xs := ws) (I.ok.hd hc) (its := its.toArray) pl (by simpa using hlen) (fun i v e => vals_strs rvv (by simpa using e)) (by
            have h4 : 4001 < scanBound := by decide
            omega) fun h' tk R keep => ?_
          obtain ⟨r2, e2, h2⟩ := r.new (o := .sk (dedS ws)) (o' := SetK X.prog X.w s.heap.objs.size (memS (dedS ws)) (dedS ws).length) hn (by
            show upd H _ _ _ = some (SetK ct.prg ct.wd _ _ _)
            rw [hp, hw]; exact upd_same)
          exact ⟨.ref s.heap.objs.size, _, I.laid (o := SetK X.prog X.w s.heap.objs.size (memS (dedS ws)) (dedS ws).length) (t' := tk) (fun b u e => keep b u (Heap.lt_size e) e) (Nat.le_refl _) (setK_new R), rfl, hq _ _ e2 r2 _ (.loc h2)⟩
      · cases hf
    · cases hf
  · exact sc_set hc pins s σ H xs us Q I rv ⟨ρ, M, _, r, dv, z, M', hf, hq⟩
/-- sorted(xs, reverse=True), where xs is in that order -/
def downB : List Int → Bool
  | [] => true
  | x :: xs => xs.all (fun y => decide (y ≤ x)) && downB xs
theorem down_pw : ∀ {xs : List Int}, downB xs = true → xs.Pairwise (· ≥ ·)
  | [], _ => .nil
  | x :: xs, h => by
    unfold downB at h
    rw [Bool.and_eq_true, List.all_eq_true] at h
    exact .cons (fun y hy => of_decide_eq_true (h.1 y hy)) (down_pw h.2)
def fSortR (fa : FE) : FE := fun env M => bnd (fa env M) fun d M1 => match d with
  | .loc n => match M1[n]? with
    | some (.lst ys) => match intsOf ys with
      | some is => if downB is then some (.loc M1.length, M1 ++ [.lst ys]) else none
      | none => none
    | _ => none
  | _ => none
theorem se_sortR {e : Expr} {fa : FE} {p p2 kpos pos : Pos} (hg : Gl X "sorted") (hm : X.mg "sorted" = none) (ha : SE X ct e fa)
    (hst : starEach [e] X.env = (false, eval e X.env) :: starEach [] X.env := by rfl) (he : backTo pos (starEach [e] X.env) = (false, eval e X.env) :: backTo pos (starEach [] X.env) := by rfl) (hpl : (backTo pos (starEach [e] X.env)).any (·.1) = false := by rfl) :
    SE X ct (.Call (.Name "sorted" p) [e] [⟨some "reverse", .Constant (.bool true) 0 p2, kpos⟩] pos) (fSortR fa) :=
  PE.imp (pe_callBK (cr_sortedRev (b := true)) hg hm (by decide +kernel) (pa_cons ha pa_nil hst) (pk_cons pe_bl pk_nil) (he := he) (hpl := hpl)) fun σ H Q ⟨ρ, M, env, r, hen, d, M', hf, hq⟩ => by
    obtain ⟨x, M1, h1, hf⟩ := bnd_some hf
    refine ⟨ρ, M, env, r, hen, x, M1, h1, fun ρ1 H1 e1 r1 v dv => ?_⟩
    split at hf
    · split at hf
      · rename_i ys hm
        split at hf
        · rename_i is hi
          split at hf
          · rename_i hd
            cases hf
            have hy := intsOf_eq hi
            subst hy
            obtain ⟨l, vs, rfl, a1, hH, a3⟩ := r1.lst hm dv
            have hv := vs_ints a3
            subst hv
            refine ⟨l, is, rfl, rfl, SqL.of hH, fun ns' q hP hO hn => ?_⟩
            have hO' : ns'.Pairwise (· ≥ ·) := hO
            have e := List.Perm.eq_of_pairwise (le := fun a b : Int => a ≥ b) (fun a b _ _ h1 h2 => Int.le_antisymm h2 h1) hO' (down_pw hd) hP
            subst e
            obtain ⟨r2, e2, h2⟩ := r1.newL hn a3
            exact hq _ _ (e1.trans e2) r2 _ (.loc h2)
          · cases hf
        · cases hf
      · cases hf
    · cases hf
end
end Zl

/-! text Y1 -/
namespace Zl
open PySem L2 PySem.Spec PyProof.Rows

/-! ## running the mirrors -/
/-- the run ends, and so -/
def Wp {α : Type} (r : Option (α × Mem)) (Q : α → Mem → Prop) : Prop := ∃ a M, r = some (a, M) ∧ Q a M
section
variable {α β : Type} {r : Option (α × Mem)} {Q : α → Mem → Prop} {a : α} {M M' : Mem}
theorem wp_ev (h : r = some (a, M')) (q : Q a M') : Wp r Q := ⟨a, M', h, q⟩
theorem wp_ok (q : Q a M) : Wp (some (a, M)) Q := ⟨a, M, rfl, q⟩
theorem Wp.go {P : α → Mem → Prop} (h : Wp r P) (k : ∀ a M, P a M → Q a M) : Wp r Q := by
  obtain ⟨a, M, e, p⟩ := h
  exact ⟨a, M, e, k a M p⟩
theorem wp_bnd {k : α → Mem → Option (β × Mem)} {Q : β → Mem → Prop} (h : Wp r fun a M => Wp (k a M) Q) : Wp (bnd r k) Q := by
  obtain ⟨a, M, rfl, b, M2, e, q⟩ := h
  exact ⟨b, M2, e, q⟩
end
abbrev QE := Dv → Mem → Prop
abbrev QS := Fl → Mem → Prop
def kSeq (g : FS) (Q : QS) : QS := fun fl M => match fl with
  | .nx e => Wp (g e M) Q
  | .rt d => Q (.rt d) M
  | .bk e => Q (.bk e) M
  | .ct e => Q (.ct e) M
def kFn (Q : QE) : QS := fun fl M => match fl with
  | .nx _ => Q .non M
  | .rt d => Q d M
  | _ => False
def kLen (n : Nat) (Q : List Dv → Mem → Prop) : List Dv → Mem → Prop := fun ds M => ds.length = n ∧ Q ds M
theorem k_len {n : Nat} {Q : List Dv → Mem → Prop} {ds : List Dv} {M : Mem} (h : ds.length = n) (k : Q ds M) : kLen n Q ds M := ⟨h, k⟩
def kLe (Q : List Dv → Mem → Prop) : List Dv → Mem → Prop := fun ds M => ds.length ≤ sizeLine ∧ Q ds M
theorem k_le {Q : List Dv → Mem → Prop} {ds : List Dv} {M : Mem} (h : ds.length.ble sizeLine = true) (k : Q ds M) : kLe Q ds M := ⟨Nat.le_of_ble_eq_true h, k⟩
def kIf {α : Type} (f g : Mem → Option (α × Mem)) (Q : α → Mem → Prop) : Bool → Mem → Prop := fun b M => match b with
  | true => Wp (f M) Q
  | false => Wp (g M) Q
section
variable {env e : En} {M : Mem} {d x : Dv} {f g : FS} {fa fb fc : FE} {ft fu : FT} {fr : FA} {Q : QS} {q : QE} {qt : Bool → Mem → Prop} {qa : List Dv → Mem → Prop} {i j n : Nat} {ds : List Dv}
theorem k_nx (h : Wp (g e M) Q) : kSeq g Q (.nx e) M := h
theorem k_rt (h : Q (.rt d) M) : kSeq g Q (.rt d) M := h
theorem k_bk (h : Q (.bk e) M) : kSeq g Q (.bk e) M := h
theorem k_ct (h : Q (.ct e) M) : kSeq g Q (.ct e) M := h
theorem kf_nx (h : q .non M) : kFn q (.nx e) M := h
theorem kf_rt (h : q d M) : kFn q (.rt d) M := h
theorem ki_t {α : Type} {f g : Mem → Option (α × Mem)} {Q : α → Mem → Prop} (h : Wp (f M) Q) : kIf f g Q true M := h
theorem ki_f {α : Type} {f g : Mem → Option (α × Mem)} {Q : α → Mem → Prop} (h : Wp (g M) Q) : kIf f g Q false M := h
theorem ki_of {α : Type} {f g : Mem → Option (α × Mem)} {Q : α → Mem → Prop} {b c : Bool} (e : b = c) (h : kIf f g Q c M) : kIf f g Q b M := e ▸ h
theorem wp_seq (h : Wp (f env M) (kSeq g Q)) : Wp (fSeq f g env M) Q := by
  refine wp_bnd (h.go fun fl M1 k => ?_)
  cases fl with
  | nx e => exact k
  | rt d => exact wp_ok k
  | bk e => exact wp_ok k
  | ct e => exact wp_ok k
theorem wp_fn {b : FS} {m : FF} (hm : m = callF n b) (env : En) (he : ds.map some ++ List.replicate (n - ds.length) none = env) (h : Wp (b env M) (kFn q)) : Wp (m ds M) q := by
  subst hm; subst he
  obtain ⟨fl, M1, e, k⟩ := h
  show Wp (match b _ M with | some (.rt d, M') => some (d, M') | some (.nx _, M') => some (.non, M') | _ => none) q
  rw [e]
  cases fl with
  | nx e => exact wp_ok k
  | rt d => exact wp_ok k
  | bk e => exact k.elim
  | ct e => exact k.elim
theorem wp_end (h : Q (.nx env) M) : Wp (fEnd env M) Q := wp_ok h
theorem wp_brk (h : Q (.bk env) M) : Wp (fBrk env M) Q := wp_ok h
theorem wp_cnt (h : Q (.ct env) M) : Wp (fCnt env M) Q := wp_ok h
theorem wp_drop (h : Wp (fa env M) fun _ M1 => Q (.nx env) M1) : Wp (fDrop fa env M) Q := wp_bnd (h.go fun _ _ k => wp_ok k)
theorem wp_ret (h : Wp (fa env M) fun d M1 => Q (.rt d) M1) : Wp (fRet fa env M) Q := wp_bnd (h.go fun _ _ k => wp_ok k)
theorem wp_set (h : Wp (fa env M) fun d M1 => Q (.nx (env.set i (some d))) M1) : Wp (fSet i fa env M) Q := wp_bnd (h.go fun _ _ k => wp_ok k)
theorem wp_asg {gg : FG} (h : Wp (fa env M) fun d M1 => Wp (gg d env M1) fun e1 M2 => Q (.nx e1) M2) : Wp (fAsg fa gg env M) Q := wp_bnd (h.go fun _ _ k => wp_bnd (k.go fun _ _ k => wp_ok k))
theorem wp_par {is : List Nat} (h : Wp (fr env M) (kLen is.length fun ds M1 => Q (.nx ((is.zip ds).foldl (fun e p => e.set p.1 (some p.2)) env)) M1)) : Wp (fPar is fr env M) Q :=
  wp_bnd (h.go fun ds M1 k => by
    show Wp (if _ then _ else _) _
    rw [if_pos k.1]
    exact wp_ok k.2)
theorem wp_ifs (h : Wp (ft env M) (kIf (f env) (g env) Q)) : Wp (fIfS ft f g env M) Q := wp_bnd (h.go fun b M1 k => by
  cases b with
  | true => exact k
  | false => exact k)
theorem wp_var (h : env[i]? = some (some d)) (k : q d M) : Wp (fV i env M) q := ⟨d, M, by unfold fV; rw [h], k⟩
theorem wp_k (k : q d M) : Wp (fK d env M) q := wp_ok k
theorem wp_op {h : Dv → Dv → Mem → Option (Dv × Mem)} (k : Wp (fa env M) fun x M1 => Wp (fb env M1) fun y M2 => Wp (h x y M2) q) : Wp (fO h fa fb env M) q := wp_bnd (k.go fun _ _ k => wp_bnd k)
theorem wp_un {h : Dv → Mem → Option (Dv × Mem)} (k : Wp (fa env M) fun x M1 => Wp (h x M1) q) : Wp (fU h fa env M) q := wp_bnd k
def kCh (h : Mem → Option (Dv × Mem)) (q : QE) : QE := fun z M => match z with
  | .bl true => Wp (h M) q
  | .bl false => q (.bl false) M
  | _ => False
theorem kc_t {h : Mem → Option (Dv × Mem)} (k : Wp (h M) q) : kCh h q (.bl true) M := k
theorem kc_f {h : Mem → Option (Dv × Mem)} (k : q (.bl false) M) : kCh h q (.bl false) M := k
theorem kc_of {h : Mem → Option (Dv × Mem)} {b c : Bool} (e : b = c) (k : kCh h q (.bl c) M) : kCh h q (.bl b) M := e ▸ k
theorem wp_chain {h h' : Dv → Dv → Mem → Option (Dv × Mem)} (k : Wp (fa env M) fun x M1 => Wp (fb env M1) fun y M2 => Wp (h x y M2) (kCh (fun M3 => bnd (fc env M3) fun w M4 => h' y w M4) q)) : Wp (fChain h h' fa fb fc env M) q :=
  wp_bnd (k.go fun x M1 k => wp_bnd (k.go fun y M2 k => wp_bnd (k.go fun z M3 k => by
    cases z with
    | bl b => cases b with
      | true => exact k
      | false => exact wp_ok k
    | _ => exact k.elim)))
def kB (Q : Bool → Mem → Prop) : QE := fun d M => match d with
  | .bl b => Q b M
  | _ => False
theorem kb (b : Bool) (h : qt b M) : kB qt (.bl b) M := h
theorem wp_b (h : Wp (fa env M) (kB qt)) : Wp (fB fa env M) qt := wp_bnd (h.go fun d M1 k => by
  cases d with
  | bl b => exact wp_ok k
  | _ => exact k.elim)
theorem wp_trB (h : Wp (fa env M) (kB qt)) : Wp (fTr fa env M) qt := wp_bnd (h.go fun d M1 k => by
  cases d with
  | bl b => exact wp_ok k
  | _ => exact k.elim)
theorem wp_not (h : Wp (ft env M) fun b M1 => qt (!b) M1) : Wp (fNotT ft env M) qt := wp_bnd (h.go fun _ _ k => wp_ok k)
theorem wp_andT (h : Wp (ft env M) (kIf (fu env) (fun M1 => some (false, M1)) qt)) : Wp (fAndT ft fu env M) qt := wp_bnd (h.go fun b M1 k => by
  cases b with
  | true => exact k
  | false => exact k)
theorem wp_orT (h : Wp (ft env M) (kIf (fun M1 => some (true, M1)) (fu env) qt)) : Wp (fOrT ft fu env M) qt := wp_bnd (h.go fun b M1 k => by
  cases b with
  | true => exact k
  | false => exact k)
theorem wp_andV (h : Wp (fa env M) (kCh (fb env) q)) : Wp (fAndV fa fb env M) q := wp_bnd (h.go fun z M1 k => by
  cases z with
  | bl b => cases b with
    | true => exact k
    | false => exact wp_ok k
  | _ => exact k.elim)
theorem wp_notV (h : Wp (fa env M) (kB fun b M1 => q (.bl !b) M1)) : Wp (fNotV fa env M) q := wp_bnd (h.go fun d M1 k => by
  cases d with
  | bl b => exact wp_ok k
  | _ => exact k.elim)
theorem wp_if (h : Wp (ft env M) (kIf (fa env) (fb env) q)) : Wp (fIf ft fa fb env M) q := wp_bnd (h.go fun b M1 k => by
  cases b with
  | true => exact k
  | false => exact k)
theorem wp_nil (h : qa [] M) : Wp (fNil env M) qa := wp_ok h
theorem wp_cons (h : Wp (fa env M) fun d M1 => Wp (fr env M1) fun ds M2 => qa (d :: ds) M2) : Wp (fCons fa fr env M) qa := wp_bnd (h.go fun _ _ k => wp_bnd (k.go fun _ _ k => wp_ok k))
theorem wp_tup (h : Wp (fr env M) (kLe fun ds M1 => q (.tup ds) M1)) : Wp (fTup fr env M) q := wp_bnd (h.go fun ds M1 k => by
  show Wp (if _ then _ else _) _
  rw [if_pos k.1]; exact wp_ok k.2)
theorem wp_lst (h : Wp (fr env M) (kLe fun ds M1 => q (.loc M1.length) (M1 ++ [.lst ds]))) : Wp (fLst fr env M) q := wp_bnd (h.go fun ds M1 k => by
  show Wp (if _ then _ else _) _
  rw [if_pos k.1]; exact wp_ok k.2)
theorem wp_c {h : List Dv → Mem → Option (Dv × Mem)} (k : Wp (fr env M) fun ds M1 => Wp (h ds M1) q) : Wp (fC h fr env M) q := wp_bnd k
theorem wp_call {F : FF} (h : Wp (fr env M) (kLen n fun ds M1 => Wp (F ds M1) q)) : Wp (fCall n F fr env M) q := wp_bnd (h.go fun ds M1 k => by
  show Wp (if _ then _ else _) _
  rw [if_pos k.1]; exact k.2)
theorem wp_callK {F : FF} {nk : Nat} {is : List Nat} (h : Wp (fr env M) fun ds M1 => (ds.length = nk ∧ (pick is ds).length = n) ∧ Wp (F (pick is ds) M1) q) : Wp (fCallK n nk is F fr env M) q := wp_bnd (h.go fun ds M1 k => by
  show Wp (if _ then _ else _) _
  rw [if_pos k.1]; exact k.2)
theorem wp_fld {c : Nat} {fld : Str} (h : Wp (fa env M) fun d M1 => ∃ k fs x, d = .loc k ∧ M1[k]? = some (.ins c fs) ∧ fs.lookup fld = some x ∧ q x M1) : Wp (fFld c fld fa env M) q := wp_bnd (h.go fun d M1 ⟨k, fs, x, e, h1, h2, h3⟩ => by
  subst e
  show Wp (match M1[k]? with | some (.ins c' fs) => if c' = c then match fs.lookup fld with | some x => some (x, M1) | none => none else none | _ => none) _
  simp only [h1, if_true, h2]
  exact wp_ok h3)
theorem wp_put {c : Nat} {fld : Str} (h : Wp (fa env M) fun y M1 => Wp (fb env M1) fun d M2 => ∃ k fs, d = .loc k ∧ M2[k]? = some (.ins c fs) ∧ fs.length < 1000 ∧ Q (.nx env) (M2.set k (.ins c (putD fld y fs)))) : Wp (fPut c fld fb fa env M) Q :=
  wp_bnd (h.go fun y M1 k => wp_bnd (k.go fun d M2 ⟨k, fs, e, h1, h2, h3⟩ => by
    subst e
    show Wp (match M2[k]? with | some (.ins c' fs) => if c' = c ∧ fs.length < 1000 then some (Fl.nx env, M2.set k (.ins c (putD fld y fs))) else none | _ => none) _
    simp only [h1, h2, and_self, if_true]
    exact wp_ok h3))
theorem wp_meth {c np : Nat} {m : Str} {F : FF} (h : Wp (fa env M) fun d M1 => isIns c m d M1 = true ∧ Wp (fr env M1) fun ds M2 => (d :: ds).length = np ∧ Wp (F (d :: ds) M2) q) : Wp (fMeth c m np F fa fr env M) q := wp_bnd (h.go fun d M1 k => by
  show Wp (if _ then _ else _) _
  rw [if_pos k.1]
  refine wp_bnd (k.2.go fun ds M2 k => ?_)
  show Wp (if _ then _ else _) _
  rw [if_pos k.1]
  exact k.2)
theorem wp_make {c np : Nat} {F : FF} (h : Wp (fr env M) fun ds M1 => ds.length + 1 = np ∧ Wp (F (.loc M1.length :: ds) (M1 ++ [.ins c []])) fun d M2 => d = .non ∧ q (.loc M1.length) M2) : Wp (fMake c np F fr env M) q := wp_bnd (h.go fun ds M1 k => by
  show Wp (if _ then _ else _) _
  rw [if_pos k.1]
  refine wp_bnd (k.2.go fun d M2 ⟨e, k⟩ => ?_)
  subst e
  exact wp_ok k)
theorem wp_m {T : String} {h : FM} (k : Wp (fa env M) fun d M1 => isTy T d M1 = true ∧ Wp (fr env M1) fun ds M2 => Wp (h d ds M2) q) : Wp (fM T h fa fr env M) q := wp_bnd (k.go fun d M1 k => by
  show Wp (if _ then _ else _) _
  rw [if_pos k.1]
  exact wp_bnd k.2)
theorem wp_or1 (h : Wp (fa env M) q) : Wp (fOr fa fb env M) q := by
  obtain ⟨d, M1, e, k⟩ := h
  exact ⟨d, M1, by unfold fOr; rw [e], k⟩
theorem wp_or2 (h1 : fa env M = none) (h : Wp (fb env M) q) : Wp (fOr fa fb env M) q := by
  obtain ⟨d, M1, e, k⟩ := h
  exact ⟨d, M1, by unfold fOr; rw [h1, e], k⟩
theorem wp_slP {flo fhi : FO} (h : Wp (fa env M) fun d M1 => Wp (flo env M1) fun lo M2 => Wp (fhi env M2) fun hi M3 => Wp (slD d lo hi M3) q) : Wp (fSl fa flo fhi env M) q := wp_bnd (h.go fun _ _ k => wp_bnd (k.go fun _ _ k => wp_bnd k))
theorem wp_noP {qo : Option Int → Mem → Prop} (h : qo none M) : Wp (fNoP env M) qo := wp_ok h
theorem wp_P {qo : Option Int → Mem → Prop} (h : Wp (fa env M) fun d M1 => ∃ i, d = .int i ∧ qo (some i) M1) : Wp (fP fa env M) qo := wp_bnd (h.go fun d M1 ⟨i, e, k⟩ => by
  subst e; exact wp_ok k)
end
section
variable {env : En} {M : Mem} {d : Dv} {fo fi : FE} {qe : En → Mem → Prop}
theorem wp_addI {i j : Int} {q : QE} (k : q (.int (i + j)) M) : Wp (addD (.int i) (.int j) M) q := wp_ok k
theorem wp_subI {i j : Int} {q : QE} (k : q (.int (i - j)) M) : Wp (subD (.int i) (.int j) M) q := wp_ok k
theorem wp_cmp {p : Int → Int → Bool} {i j : Int} {q : QE} (k : q (.bl (p i j)) M) : Wp (cmpI p (.int i) (.int j) M) q := wp_ok k
theorem wp_modI {i j : Int} {q : QE} (h : 0 < j) (k : q (.int (i % j)) M) : Wp (modD (.int i) (.int j) M) q := wp_ev (if_pos h) k
theorem wp_fdivI {i j : Int} {q : QE} (h : 0 < j ∧ j < 1073741824) (k : q (.int (i / j)) M) : Wp (fdivD (.int i) (.int j) M) q := wp_ev (if_pos h) k
theorem wp_mulI {i j : Int} {q : QE} (h : (-(2 ^ 64) < i ∧ i < 2 ^ 64) ∨ (-(2 ^ 64) < j ∧ j < 2 ^ 64)) (k : q (.int (i * j)) M) : Wp (mulD (.int i) (.int j) M) q := wp_ev (if_pos h) k
theorem wp_eqI {b : Bool} {i j : Int} {q : QE} (k : q (.bl (xor b (i == j))) M) : Wp (eqD b (.int i) (.int j) M) q := wp_ok k
theorem wp_eqS {b : Bool} {i j : Str} {q : QE} (k : q (.bl (xor b (i == j))) M) : Wp (eqD b (.str i) (.str j) M) q := wp_ok k
theorem wp_isi {ds : List Dv} {x : Dv} {M1 : Mem} {q : QE} (h : isiD ds M = some (x, M1)) (k : q x M1) : Wp (isiD ds M) q := wp_ev h k
theorem wp_len {ds : List Dv} {x : Dv} {M1 : Mem} {q : QE} (h : lenE ds M = some (x, M1)) (k : q x M1) : Wp (lenE ds M) q := wp_ev h k
theorem wp_intd {ds : List Dv} {x : Dv} {M1 : Mem} {q : QE} (h : intD ds M = some (x, M1)) (k : q x M1) : Wp (intD ds M) q := wp_ev h k
theorem wp_ixT {xs : List Dv} {i : Int} {x : Dv} {q : QE} (h : atI xs i = some x) (k : q x M) : Wp (ixE (.tup xs) (.int i) M) q := wp_ev (by unfold ixE ixD; simp only [h]) k
theorem wp_ixR {xs : List Dv} {i : Int} {x : Dv} {q : QE} (h : atI xs i = some x) (k : q x M) : Wp (ixE (.rol xs) (.int i) M) q := wp_ev (by unfold ixE ixD; simp only [h]) k
theorem wp_ixL {n : Nat} {xs : List Dv} {i : Int} {x : Dv} {q : QE} (hm : M[n]? = some (.lst xs)) (h : atI xs i = some x) (k : q x M) : Wp (ixE (.loc n) (.int i) M) q := wp_ev (by unfold ixE ixD; simp only [hm, h]) k
theorem wp_lenL {n : Nat} {xs : List Dv} {q : QE} (hm : M[n]? = some (.lst xs)) (k : q (.int xs.length) M) : Wp (lenE [.loc n] M) q := wp_ev (by unfold lenE lenD itemsD; simp only [hm]) k
theorem wp_tupL {n : Nat} {xs : List Dv} {q : QE} (hm : M[n]? = some (.lst xs)) (k : q (.tup xs) M) : Wp (tupD [.loc n] M) q := wp_ev (by unfold tupD; simp only [hm]) k
theorem wp_append {n : Nat} {xs : List Dv} {x : Dv} {q : QE} (hm : M[n]? = some (.lst xs)) (h : xs.length < sizeLine) (k : q .non (M.set n (.lst (xs ++ [x])))) : Wp (appendD (.loc n) [x] M) q := wp_ev (by unfold appendD; simp only [hm, if_pos h]) k
theorem ty_lst {n : Nat} {xs : List Dv} (hm : M[n]? = some (.lst xs)) : isTy "list" (.loc n) M = true := by unfold isTy; simp only [hm]; rfl
theorem wp_all {n : Nat} {xs : List Dv} {bs : List Bool} {q : QE} (hm : M[n]? = some (.lst xs)) (h : blsD xs = some bs) (k : q (.bl (bs.all id)) M) : Wp (allD [.loc n] M) q := wp_ev (by unfold allD; simp only [hm, h]) k
theorem wp_any {n : Nat} {xs : List Dv} {bs : List Bool} {q : QE} (hm : M[n]? = some (.lst xs)) (h : blsD xs = some bs) (k : q (.bl (bs.any id)) M) : Wp (anyD [.loc n] M) q := wp_ev (by unfold anyD; simp only [hm, h]) k
theorem bls_all : ∀ {xs : List Dv}, (∀ x ∈ xs, x = .bl true) → blsD xs = some (List.replicate xs.length true)
  | [], _ => rfl
  | x :: xs, h => by
    have e := h x (by simp)
    subst e
    unfold blsD
    rw [bls_all fun y hy => h y (by simp [hy])]; rfl
theorem wp_src {qi : Src → Mem → Prop} {fa : FE} (h : Wp (fa env M) fun d M1 => ∃ src, srcOf M1 d = some src ∧ qi src M1) : Wp (fSrc fa env M) qi := wp_bnd (h.go fun d M1 ⟨s, e, k⟩ => by
  show Wp (match srcOf M1 d with | some s => some (s, M1) | none => none) _
  rw [e]; exact wp_ok k)
theorem wp_rng1 {qi : Src → Mem → Prop} {fa : FE} (h : Wp (fa env M) fun d M1 => ∃ j : Int, d = .int j ∧ (-(2 ^ 62) ≤ j ∧ j < 2 ^ 62) ∧ qi (srcR 0 j.toNat) M1) : Wp (fRng1 fa env M) qi := wp_bnd (h.go fun d M1 ⟨j, e, h1, k⟩ => by
  subst e
  show Wp (if _ then _ else _) _
  rw [if_pos h1]; exact wp_ok k)
theorem wp_gN {i : Nat} (h : qe (env.set i (some d)) M) : Wp (gN i d env M) qe := wp_ok h
theorem wp_gsNil (h : qe env M) : Wp (gsNil [] env M) qe := wp_ok h
theorem wp_gsCons {f : FG} {g : FGs} {ds : List Dv} (h : Wp (f d env M) fun e1 M1 => Wp (g ds e1 M1) qe) : Wp (gsCons f g (d :: ds) env M) qe := wp_bnd h
theorem wp_gT {n : Nat} {g h : FGs} {xs : List Dv} (hn : xs.length = n) (k : Wp (g xs env M) qe) : Wp (gOr (gT n g) (gL n h) (.tup xs) env M) qe := by
  obtain ⟨e, M1, e1, k⟩ := k
  exact ⟨e, M1, by unfold gOr gT; simp only [if_pos hn, e1], k⟩
theorem wp_gPr {n : Nat} {g h : FGs} {xs : List Dv} (hn : xs.length = n) (k : Wp (g xs env M) qe) : Wp (gOr (gT n g) (gL n h) (.pr xs) env M) qe := by
  obtain ⟨e, M1, e1, k⟩ := k
  exact ⟨e, M1, by unfold gOr gT; simp only [if_pos hn, e1], k⟩
theorem wp_gL {m n : Nat} {g h : FGs} {xs : List Dv} (hm : M[m]? = some (.lst xs)) (hn : xs.length = n) (k : Wp (h xs env M) qe) : Wp (gOr (gT n g) (gL n h) (.loc m) env M) qe := by
  obtain ⟨e, M1, e1, k⟩ := k
  exact ⟨e, M1, by unfold gOr gT gL; simp only [hm, if_pos hn, e1], k⟩
theorem wp_gS (h : Wp (fo env M) fun o M1 => Wp (fi env M1) fun i M2 => ∃ M3, setE o i d M2 = some M3 ∧ qe env M3) : Wp (gSE fo fi d env M) qe := wp_bnd (h.go fun o M1 k => wp_bnd (k.go fun i M2 ⟨M3, e, k⟩ => by
  show Wp (match setE o i d M2 with | some M3 => some (env, M3) | none => none) _
  rw [e]; exact wp_ok k))
/-- o[j] = v -/
theorem ixN_n {n j : Nat} (hj : j < n) : ixN n (j : Int) = some j := by
  unfold ixN
  rw [if_pos (by omega), if_pos (by omega)]; simp
theorem atI_n {α : Type} {xs : List α} {j : Nat} {x : α} (h : xs[j]? = some x) : atI xs (j : Int) = some x := by
  unfold atI
  rw [ixN_n (List.getElem?_eq_some_iff.mp h).1]; exact h
theorem set_i {n j : Nat} {k : Int} {xs : List Dv} {v : Dv} (hm : M[n]? = some (.lst xs)) (hj : ixN xs.length k = some j) : setE (.loc n) (.int k) v M = some (M.set n (.lst (xs.set j v))) := by
  unfold setE setD
  simp only [hm, hj]
theorem set_at {n j : Nat} {xs : List Dv} {v : Dv} (hm : M[n]? = some (.lst xs)) (hj : j < xs.length) : setE (.loc n) (.int (j : Nat)) v M = some (M.set n (.lst (xs.set j v))) := by
  unfold setE setD
  simp only [hm, ixN_n hj]
end
/-! ### loops -/
def kLoop (I : En → Mem → Prop) (Q : QS) : QS := fun fl M => match fl with
  | .nx e => I e M
  | .ct e => I e M
  | .bk e => Q (.nx e) M
  | .rt d => Q (.rt d) M
section
variable {env : En} {M : Mem} {g : FG} {f : FS} {it : Stp} {Q : QS}
theorem kl_nx {I : En → Mem → Prop} {e : En} (h : I e M) : kLoop I Q (.nx e) M := h
theorem kl_ct {I : En → Mem → Prop} {e : En} (h : I e M) : kLoop I Q (.ct e) M := h
theorem kl_rt {I : En → Mem → Prop} {d : Dv} (h : Q (.rt d) M) : kLoop I Q (.rt d) M := h
theorem kl_bk {I : En → Mem → Prop} {e : En} (h : Q (.nx e) M) : kLoop I Q (.bk e) M := h
theorem wp_loop (I : Nat → En → Mem → Prop) (n : Nat) (hgo : ∀ i env M, i < n → I i env M → ∃ d, it i M = some (some d) ∧ Wp (g d env M) fun e1 M1 => Wp (f e1 M1) (kLoop (I (i + 1)) Q))
    (hend : ∀ env M, I n env M → it n M = some none ∧ Q (.nx env) M) : ∀ (k i : Nat) (env : En) (M : Mem), k + i = n → I i env M → Wp (loopF it g f k i env M) Q
  | 0, i, env, M, e, h => by
    have : i = n := by omega
    subst this
    obtain ⟨h1, h2⟩ := hend env M h
    show Wp (match it i M with | some none => some (Fl.nx env, M) | _ => none) Q
    rw [h1]; exact wp_ok h2
  | k + 1, i, env, M, e, h => by
    obtain ⟨d, h1, h2⟩ := hgo i env M (by omega) h
    unfold loopF
    simp only [h1]
    refine wp_bnd (h2.go fun e1 M1 h2 => wp_bnd (h2.go fun fl M2 h2 => ?_))
    cases fl with
    | nx e => exact wp_loop I n hgo hend k (i + 1) e M2 (by omega) h2
    | ct e => exact wp_loop I n hgo hend k (i + 1) e M2 (by omega) h2
    | bk e => exact wp_ok h2
    | rt d => exact wp_ok h2
theorem wp_for {fi : FI} (I : Nat → En → Mem → Prop) (h : Wp (fi env M) fun src M1 => I 0 env M1 ∧
      (∀ i env M, i < src.many → I i env M → ∃ d, src.stp i M = some (some d) ∧ Wp (g d env M) fun e1 M1 => Wp (f e1 M1) (kLoop (I (i + 1)) Q)) ∧
      ∀ env M, I src.many env M → src.stp src.many M = some none ∧ Q (.nx env) M) : Wp (fFor fi g f env M) Q :=
  wp_bnd (h.go fun src M1 ⟨h0, h1, h2⟩ => wp_loop I src.many h1 h2 src.many 0 env M1 (by omega) h0)
/-- while: I m: at most m turns are left -/
theorem wp_whileI {c : FT} (I : Nat → En → Mem → Prop) (h : ∀ m env M, I m env M → Wp (c env M) fun b M1 => match b with
      | true => Wp (f env M1) (kLoop (fun e M => ∃ m', m' < m ∧ I m' e M) Q)
      | false => Q (.nx env) M1) : ∀ (k m : Nat) (env : En) (M : Mem), m < k → I m env M → Wp (whileF c f k env M) Q
  | 0, m, env, M, e, h => by omega
  | k + 1, m, env, M, e, hi => by
    unfold whileF
    refine wp_bnd ((h m env M hi).go fun b M1 h1 => ?_)
    cases b with
    | false => exact wp_ok h1
    | true =>
      refine wp_bnd (Wp.go h1 fun fl M2 h2 => ?_)
      cases fl with
      | nx e => obtain ⟨m', l, h2⟩ := h2; exact wp_whileI I h k m' e M2 (by omega) h2
      | ct e => obtain ⟨m', l, h2⟩ := h2; exact wp_whileI I h k m' e M2 (by omega) h2
      | bk e => exact wp_ok h2
      | rt d => exact wp_ok h2
/-- comprehensions: I i acc M, the new list's cell aside -/
theorem wp_compI {ft : FT} {fe : FE} {e0 : En} {n : Nat} {q : Mem → Prop} (I : Nat → List Dv → Mem → Prop) (m : Nat) (hI : ∀ i acc M, I i acc M → M[n]? = some (.lst acc))
    (hgo : ∀ i acc M, i < m → I i acc M → ∃ d, it i M = some (some d) ∧ Wp (g d e0 M) fun e1 M1 => Wp (ft e1 M1) fun b M2 => match b with
      | true => Wp (fe e1 M2) fun y M3 => ∃ acc', M3[n]? = some (.lst acc') ∧ acc'.length < sizeLine ∧ I (i + 1) (acc' ++ [y]) (M3.set n (.lst (acc' ++ [y])))
      | false => I (i + 1) acc M2)
    (hend : ∀ acc M, I m acc M → it m M = some none ∧ q M) : ∀ (k i : Nat) (acc : List Dv) (M : Mem), k + i = m → I i acc M → ∃ M', compF it g ft fe e0 n k i M = some M' ∧ q M'
  | 0, i, acc, M, e, h => by
    have : i = m := by omega
    subst this
    obtain ⟨h1, h2⟩ := hend acc M h
    refine ⟨M, ?_, h2⟩
    show (match it i M with | some none => some M | _ => none) = _
    rw [h1]
  | k + 1, i, acc, M, e, h => by
    obtain ⟨d, h1, e1, M1, h2, b, M2, h3, h4⟩ := hgo i acc M (by omega) h
    unfold compF
    simp only [h1, h2]
    cases b with
    | false =>
      simp only [h3]
      exact wp_compI I m hI hgo hend k (i + 1) acc M2 (by omega) h4
    | true =>
      obtain ⟨y, M3, h5, acc', h6, h7, h8⟩ := h4
      simp only [h3, h5, h6, if_pos h7]
      exact wp_compI I m hI hgo hend k (i + 1) _ _ (by omega) h8
end
/-! ### what stays in the memory -/
/-- the cells of M stay, but those of W -/
abbrev Kp (W : Nat → Prop) (M M' : Mem) : Prop := M.length ≤ M'.length ∧ ∀ n, n < M.length → ¬ W n → M'[n]? = M[n]?
abbrev NoW : Nat → Prop := fun _ => False
section
variable {W W' : Nat → Prop} {M M1 M2 : Mem} {n : Nat} {o : Ob}
theorem Kp.refl : Kp W M M := ⟨Nat.le_refl _, fun _ _ _ => rfl⟩
theorem Kp.trans (a : Kp W M M1) (b : Kp W' M1 M2) (h : ∀ n, n < M.length → W' n → W n) : Kp W M M2 :=
  ⟨Nat.le_trans a.1 b.1, fun n hn w => (b.2 n (Nat.lt_of_lt_of_le hn a.1) fun x => w (h n hn x)).trans (a.2 n hn w)⟩
theorem Kp.tr (a : Kp W M M1) (b : Kp W M1 M2) : Kp W M M2 := a.trans b fun _ _ h => h
theorem Kp.trN (a : Kp W M M1) (b : Kp NoW M1 M2) : Kp W M M2 := a.trans b fun _ _ h => h.elim
theorem Kp.app (L : Mem) : Kp W M (M ++ L) := ⟨by simp, fun n hn _ => by rw [List.getElem?_append_left hn]⟩
theorem Kp.set (h : n < M.length → W n) : Kp W M (M.set n o) := ⟨by simp, fun m hm w => by
  rw [List.getElem?_set_ne fun e => ?_]
  subst e; exact w (h hm)⟩
theorem Kp.at (k : Kp W M M1) (h : M[n]? = some o) (w : ¬ W n) : M1[n]? = some o := (k.2 n (List.getElem?_eq_some_iff.mp h).1 w).trans h
theorem lt_of {x : Ob} (h : M[n]? = some x) : n < M.length := (List.getElem?_eq_some_iff.mp h).1
theorem at_new : (M ++ [o])[M.length]? = some o := by simp
theorem at_set {x : Ob} (h : M[n]? = some x) : (M.set n o)[n]? = some o := by
  rw [List.getElem?_set, if_pos rfl, if_pos (lt_of h)]
theorem at_set_ne {m : Nat} {x : Ob} (h : M[m]? = some x) (e : n ≠ m) : (M.set n o)[m]? = some x := by
  rw [List.getElem?_set_ne e]; exact h
theorem at_app {x : Ob} {L : Mem} (h : M[n]? = some x) : (M ++ L)[n]? = some x := by
  rw [List.getElem?_append_left (lt_of h)]; exact h
end
inductive All2 {α β : Type} (R : α → β → Prop) : List α → List β → Prop
  | nil : All2 R [] []
  | cons {x : α} {y : β} {xs : List α} {ys : List β} : R x y → All2 R xs ys → All2 R (x :: xs) (y :: ys)
section
variable {α β : Type} {R : α → β → Prop}
theorem All2.length : ∀ {xs : List α} {ys : List β}, All2 R xs ys → xs.length = ys.length
  | _, _, .nil => rfl
  | _, _, .cons _ t => by rw [List.length_cons, List.length_cons, t.length]
theorem All2.snoc {x : α} {y : β} (h : R x y) : ∀ {xs : List α} {ys : List β}, All2 R xs ys → All2 R (xs ++ [x]) (ys ++ [y])
  | _, _, .nil => .cons h .nil
  | _, _, .cons r t => .cons r (All2.snoc h t)
theorem All2.map_eq {φ : α → β} : ∀ {xs : List α} {ys : List β}, All2 (fun x y => y = φ x) xs ys → ys = xs.map φ
  | _, _, .nil => rfl
  | _, _, .cons r t => by rw [r, All2.map_eq t]; rfl
theorem All2.right {P : β → Prop} (h : ∀ x y, R x y → P y) : ∀ {xs : List α} {ys : List β}, All2 R xs ys → ∀ y ∈ ys, P y
  | _, _, .nil => fun y hy => by simp at hy
  | _, _, .cons r t => fun y hy => by
    rcases List.mem_cons.mp hy with e | hy
    · subst e; exact h _ _ r
    · exact All2.right h t y hy
end
/-- [e for x in xs]: over items that stay -/
theorem wp_lc {fi : FI} {fe : FE} {env : En} {M : Mem} {q : QE} {v : Nat} {vs : List Nat} (R : Dv → Dv → Prop) (W : Nat → Prop) (J : Mem → Prop)
    (h : Wp (fi env M) fun src M1 => ∃ xs : List Dv, src.many = xs.length ∧ xs.length ≤ sizeLine ∧ ¬ W M1.length ∧ (∀ i M', Kp W M1 M' → J M' → i ≤ xs.length → src.stp i M' = some xs[i]?) ∧
      J (M1 ++ [.lst []]) ∧ (∀ M' acc acc', J M' → M'[M1.length]? = some (.lst acc) → J (M'.set M1.length (.lst acc'))) ∧
      (∀ x ∈ xs, ∀ M', Kp W M1 M' → M1.length < M'.length → J M' → Wp (fe ((wipeE env vs).set v (some x)) M') fun y M3 => R x y ∧ Kp W M' M3 ∧ J M3) ∧
      ∀ ys M', All2 R xs ys → Kp W M1 M' → J M' → M'[M1.length]? = some (.lst ys) → q (.loc M1.length) M') : Wp (fComp fi vs (gN v) fYes fe env M) q := by
  refine wp_bnd (h.go fun src M1 ⟨xs, h1, h2, h3, h4, h5, h6, h7, h8⟩ => ?_)
  have key : ∃ M', compF src.stp (gN v) fYes fe (wipeE env vs) M1.length src.many 0 (M1 ++ [.lst []]) = some M' ∧ q (.loc M1.length) M' := by
    refine wp_compI (fun i acc M' => i ≤ xs.length ∧ All2 R (xs.take i) acc ∧ Kp W M1 M' ∧ J M' ∧ M'[M1.length]? = some (.lst acc)) src.many (fun i acc M' hh => hh.2.2.2.2) ?_ ?_ src.many 0 [] _ (by omega) ⟨Nat.zero_le _, .nil, .app _, h5, at_new⟩
    · rintro i acc M' hi ⟨a0, a1, a2, a3, a4⟩
      have hx : xs[i]? = some (xs[i]'(by omega)) := List.getElem?_eq_getElem (by omega)
      refine ⟨xs[i]'(by omega), by rw [h4 i M' a2 a3 a0, hx], wp_gN (wp_ok ?_)⟩
      refine (h7 _ (List.getElem_mem _) M' a2 (lt_of a4) a3).go fun y M3 ⟨b1, b2, b3⟩ => ?_
      have c1 : M3[M1.length]? = some (.lst acc) := b2.at a4 h3
      have c2 := a1.length
      rw [List.length_take] at c2
      refine ⟨acc, c1, by omega, by omega, ?_, (a2.tr b2).trans (Kp.set (W := fun n => n = M1.length) fun _ => rfl) ?_, h6 M3 acc _ b3 c1, at_set c1⟩
      · have e : xs.take (i + 1) = xs.take i ++ [xs[i]'(by omega)] := by
          rw [List.take_add_one, hx]; rfl
        rw [e]
        exact a1.snoc b1
      · intro n hn w
        omega
    · rintro acc M' ⟨a0, a1, a2, a3, a4⟩
      refine ⟨?_, ?_⟩
      · rw [h4 _ M' a2 a3 a0, h1]
        simp
      · rw [h1, List.take_length] at a1
        exact h8 acc M' a1 a2 a3 a4
  obtain ⟨M', e, k⟩ := key
  show Wp (match compF _ _ _ _ _ _ _ _ _ with | some M2 => some (Dv.loc M1.length, M2) | none => none) q
  rw [e]
  exact wp_ok k
theorem wp_lstA {env : En} {M : Mem} {fr : FA} {q : QE} (h : Wp (fr env M) (kLe fun ds M1 => ∀ n M2, n = M1.length → M2[n]? = some (.lst ds) → Kp NoW M1 M2 → M2.length = n + 1 → q (.loc n) M2)) : Wp (fLst fr env M) q :=
  wp_lst (h.go fun ds M1 k => ⟨k.1, k.2 _ _ rfl at_new (.app _) (by simp)⟩)
/-- [e for x in xs if t], nothing else written -/
theorem wp_lcF {fi : FI} {ft : FT} {fe : FE} {env : En} {M : Mem} {q : QE} {v : Nat} {vs : List Nat} (p : Dv → Bool) (φ : Dv → Dv)
    (h : Wp (fi env M) fun src M1 => ∃ xs : List Dv, src.many = xs.length ∧ xs.length ≤ sizeLine ∧ (∀ i M', Kp NoW M1 M' → i ≤ xs.length → src.stp i M' = some xs[i]?) ∧
      (∀ x ∈ xs, ∀ M', Kp NoW M1 M' → Wp (ft ((wipeE env vs).set v (some x)) M') fun b M2 => b = p x ∧ Kp NoW M' M2) ∧
      (∀ x ∈ xs, ∀ M', Kp NoW M1 M' → Wp (fe ((wipeE env vs).set v (some x)) M') fun y M3 => y = φ x ∧ Kp NoW M' M3) ∧
      ∀ M', Kp NoW M1 M' → M'[M1.length]? = some (.lst ((xs.filter p).map φ)) → q (.loc M1.length) M') : Wp (fComp fi vs (gN v) ft fe env M) q := by
  refine wp_bnd (h.go fun src M1 ⟨xs, h1, h2, h4, h6, h7, h8⟩ => ?_)
  have key : ∃ M', compF src.stp (gN v) ft fe (wipeE env vs) M1.length src.many 0 (M1 ++ [.lst []]) = some M' ∧ q (.loc M1.length) M' := by
    refine wp_compI (fun i acc M' => i ≤ xs.length ∧ acc = ((xs.take i).filter p).map φ ∧ Kp NoW M1 M' ∧ M'[M1.length]? = some (.lst acc)) src.many (fun i acc M' hh => hh.2.2.2) ?_ ?_ src.many 0 [] _ (by omega) ⟨Nat.zero_le _, rfl, .app _, at_new⟩
    · rintro i acc M' hi ⟨a0, a1, a2, a4⟩
      have hx : xs[i]? = some (xs[i]'(by omega)) := List.getElem?_eq_getElem (by omega)
      have e : xs.take (i + 1) = xs.take i ++ [xs[i]'(by omega)] := by
        rw [List.take_add_one, hx]; rfl
      refine ⟨xs[i]'(by omega), by rw [h4 i M' a2 a0, hx], wp_gN ?_⟩
      refine (h6 _ (List.getElem_mem _) M' a2).go fun b M2 ⟨b1, b2⟩ => ?_
      cases hb : p (xs[i]'(by omega)) with
      | false =>
        rw [b1, hb]
        refine ⟨by omega, ?_, a2.tr b2, b2.at a4 id⟩
        rw [e, List.filter_append, List.filter_cons, if_neg (by rw [hb]; decide)]; simpa using a1
      | true =>
        rw [b1, hb]
        refine (h7 _ (List.getElem_mem _) M2 (a2.tr b2)).go fun y M3 ⟨c1, c2⟩ => ?_
        have d1 : M3[M1.length]? = some (.lst acc) := c2.at (b2.at a4 id) id
        refine ⟨acc, d1, ?_, by omega, ?_, ((a2.tr b2).tr c2).trans (Kp.set (W := fun n => n = M1.length) fun _ => rfl) ?_, at_set d1⟩
        · rw [a1, List.length_map]
          have := List.length_filter_le p (xs.take i)
          rw [List.length_take] at this
          omega
        · rw [e, List.filter_append, List.filter_cons, if_pos hb, a1, c1]; simp
        · intro n hn w; omega
    · rintro acc M' ⟨a0, a1, a2, a4⟩
      refine ⟨by rw [h4 _ M' a2 a0, h1]; simp, ?_⟩
      rw [h1, List.take_length] at a1
      subst a1
      exact h8 M' a2 a4
  obtain ⟨M', e, k⟩ := key
  show Wp (match compF _ _ _ _ _ _ _ _ _ with | some M2 => some (Dv.loc M1.length, M2) | none => none) q
  rw [e]
  exact wp_ok k
/-- [e for x in xs], nothing else written -/
theorem wp_lcP {fi : FI} {fe : FE} {env : En} {M : Mem} {q : QE} {v : Nat} {vs : List Nat} (φ : Dv → Dv)
    (h : Wp (fi env M) fun src M1 => ∃ xs : List Dv, src.many = xs.length ∧ xs.length ≤ sizeLine ∧ (∀ i M', Kp NoW M1 M' → i ≤ xs.length → src.stp i M' = some xs[i]?) ∧
      (∀ x ∈ xs, ∀ M', Kp NoW M1 M' → Wp (fe ((wipeE env vs).set v (some x)) M') fun y M3 => y = φ x ∧ Kp NoW M' M3) ∧
      ∀ M', Kp NoW M1 M' → M'[M1.length]? = some (.lst (xs.map φ)) → q (.loc M1.length) M') : Wp (fComp fi vs (gN v) fYes fe env M) q :=
  wp_lcF (fun _ => true) φ (h.go fun src M1 ⟨xs, h1, h2, h3, h4, h5⟩ => ⟨xs, h1, h2, h3, fun x hx M' k => wp_ok ⟨rfl, .refl⟩, h4, fun M' k e => h5 M' k (by rw [e, List.filter_eq_self.mpr (fun _ _ => rfl)])⟩)
theorem wp_mulT {xs : List Dv} {k : Nat} {M : Mem} {q : QE} (h : xs.length * k ≤ 16777216) (h2 : k < 1000000) (c : q (.tup (List.replicate k xs).flatten) M) : Wp (mulD (.tup xs) (.int (k : Nat)) M) q := by
  refine wp_ev ?_ c
  have e : ((k : Nat) : Int).toNat = k := Int.toNat_natCast k
  unfold mulD
  simp only [e]
  rw [if_pos ⟨by omega, by omega, Nat.le_trans h (by decide)⟩]
theorem wp_mulL {n : Nat} {xs : List Dv} {k : Nat} {M : Mem} {q : QE} (hm : M[n]? = some (.lst xs)) (h : xs.length * k ≤ 16777216) (h2 : k < 1000000)
    (c : ∀ m M2, m = M.length → M2[m]? = some (.lst (List.replicate k xs).flatten) → Kp NoW M M2 → M2.length = m + 1 → q (.loc m) M2) : Wp (mulD (.loc n) (.int (k : Nat)) M) q := by
  refine wp_ev (a := .loc M.length) (M' := M ++ [.lst (List.replicate k xs).flatten]) ?_ (c _ _ rfl at_new (.app _) (by simp))
  have e : ((k : Nat) : Int).toNat = k := Int.toNat_natCast k
  unfold mulD
  simp only [hm, e]
  rw [if_pos ⟨by omega, by omega, Nat.le_trans h (by decide)⟩]
theorem wp_extend {n m : Nat} {xs ys : List Dv} {M : Mem} {q : QE} (hn : M[n]? = some (.lst xs)) (hm : M[m]? = some (.lst ys)) (h : xs.length + ys.length ≤ 16777216) (k : q .non (M.set n (.lst (xs ++ ys)))) : Wp (extendD (.loc n) [.loc m] M) q := by
  refine wp_ev ?_ k
  unfold extendD
  simp only [hn, hm]
  rw [if_pos (Nat.le_trans h (by decide))]
theorem wp_addT {xs ys : List Dv} {M : Mem} {q : QE} (h : xs.length + ys.length ≤ 16777216) (k : q (.tup (xs ++ ys)) M) : Wp (addD (.tup xs) (.tup ys) M) q := by
  refine wp_ev ?_ k
  unfold addD
  simp only
  rw [if_pos (Nat.le_trans h (by decide))]
theorem wp_lcI {fi : FI} {fe : FE} {env : En} {M : Mem} {q : QE} {v : Nat} {vs : List Nat} (I : Nat → Nat → List Dv → Mem → Prop)
    (h : Wp (fi env M) fun src M1 => (∀ i acc M', I M1.length i acc M' → M'[M1.length]? = some (.lst acc)) ∧ I M1.length 0 [] (M1 ++ [.lst []]) ∧
      (∀ i acc M', i < src.many → I M1.length i acc M' → ∃ d, src.stp i M' = some (some d) ∧ Wp (fe ((wipeE env vs).set v (some d)) M') fun y M3 => ∃ acc', M3[M1.length]? = some (.lst acc') ∧ acc'.length < sizeLine ∧ I M1.length (i + 1) (acc' ++ [y]) (M3.set M1.length (.lst (acc' ++ [y])))) ∧
      ∀ acc M', I M1.length src.many acc M' → src.stp src.many M' = some none ∧ q (.loc M1.length) M') : Wp (fComp fi vs (gN v) fYes fe env M) q := by
  refine wp_bnd (h.go fun src M1 ⟨h0, h1, h2, h3⟩ => ?_)
  obtain ⟨M', e, k⟩ := wp_compI (it := src.stp) (g := gN v) (ft := fYes) (fe := fe) (e0 := wipeE env vs) (n := M1.length) (q := fun M' => q (.loc M1.length) M') (I M1.length) src.many h0
    (fun i acc M' hi hh => by
      obtain ⟨d, e, w⟩ := h2 i acc M' hi hh
      exact ⟨d, e, wp_gN (wp_ok w)⟩) h3 src.many 0 [] _ (by omega) h1
  show Wp (match compF _ _ _ _ _ _ _ _ _ with | some M2 => some (Dv.loc M1.length, M2) | none => none) q
  rw [e]
  exact wp_ok k
theorem wp_enum {env : En} {M : Mem} {qi : Src → Mem → Prop} {fa : FE} (h : Wp (fa env M) fun d M1 => ∃ src, srcE M1 d = some src ∧ qi src M1) : Wp (fEnum fa env M) qi := wp_bnd (h.go fun d M1 ⟨s, e, k⟩ => by
  show Wp (match srcE M1 d with | some s => some (s, M1) | none => none) _
  rw [e]; exact wp_ok k)
theorem ins_ok {c n : Nat} {fs : List (Str × Dv)} {m : Str} {M : Mem} (h : M[n]? = some (.ins c fs)) (hl : (fs.lookup m).isNone = true) : isIns c m (.loc n) M = true := by
  unfold isIns
  simp only [h, hl, beq_self_eq_true, Bool.and_self]
theorem wp_inL {b : Bool} {n : Nat} {x : Dv} {ys : List Dv} {M : Mem} {q : QE} (h : M[n]? = some (.lst ys)) (hx : flatD x = true) (hy : ys.all flatD = true) (k : q (.bl (xor b (ys.any fun y => eqF y x))) M) : Wp (inE b x (.loc n) M) q := by
  refine wp_ev ?_ k
  unfold inE inD
  cases x <;> simp_all [flatD]
theorem wp_indexL {n j : Nat} {x : Dv} {ys : List Dv} {M : Mem} {q : QE} (h : M[n]? = some (.lst ys)) (hx : flatD x = true) (hy : ys.all flatD = true) (hj : idxB (fun y => eqF y x) ys = some j) (k : q (.int (j : Nat)) M) : Wp (indexD (.loc n) [x] M) q := by
  refine wp_ev ?_ k
  unfold indexD
  simp only [h, hx, hy, Bool.and_self, if_true, hj]
theorem idxB_of {p : Dv → Bool} : ∀ {ys : List Dv}, ys.any p = true → ∃ j, idxB p ys = some j ∧ j < ys.length
  | [], h => by simp at h
  | y :: ys, h => by
    unfold idxB
    by_cases hp : p y = true
    · exact ⟨0, if_pos hp, by simp⟩
    · rw [if_neg hp]
      rw [List.any_cons, Bool.or_eq_true] at h
      obtain ⟨j, e, hj⟩ := idxB_of (h.resolve_left hp)
      exact ⟨j + 1, by rw [e], by simp; omega⟩
theorem cut_take {xs : List Dv} {c : Nat} (h : c ≤ xs.length) : cutD xs none (some (c : Nat)) = xs.take c := by
  unfold cutD
  have e1 : HT.sIx xs.length 0 none = 0 := rfl
  have e2 : HT.sIx xs.length xs.length (some (c : Nat)) = c := by
    rw [HT.sIx_nat]; omega
  rw [e1, e2]; simp
def stpL (n : Nat) : Stp := fun i M => match M[n]? with
  | some (.lst xs) => some xs[i]?
  | _ => none
theorem stpL_at {n i : Nat} {M : Mem} {xs : List Dv} (h : M[n]? = some (.lst xs)) : stpL n i M = some xs[i]? := by
  unfold stpL; simp only [h]
theorem src_loc {n : Nat} {M : Mem} {xs : List Dv} (h : M[n]? = some (.lst xs)) : srcOf M (.loc n) = some ⟨xs.length, stpL n⟩ := by
  unfold srcOf; simp only [h]; rfl
theorem wp_slR {xs : List Dv} {lo hi : Option Int} {M : Mem} {q : QE} (k : ∀ n M2, n = M.length → M2[n]? = some (.lst (cutD xs lo hi)) → Kp NoW M M2 → M2.length = n + 1 → q (.loc n) M2) : Wp (slD (.rol xs) lo hi M) q :=
  wp_ev (M' := M ++ [.lst (cutD xs lo hi)]) rfl (k _ _ rfl at_new (.app _) (by simp))
theorem wp_slT {xs : List Dv} {lo hi : Option Int} {M : Mem} {q : QE} (k : q (.tup (cutD xs lo hi)) M) : Wp (slD (.tup xs) lo hi M) q := wp_ok k
theorem cut_mem {xs : List Dv} {lo hi : Option Int} {x : Dv} (h : x ∈ cutD xs lo hi) : x ∈ xs := List.mem_of_mem_drop (List.mem_of_mem_take h)
def intsR (n : Nat) : List Dv := (List.range n).map fun j => Dv.int (j : Nat)
theorem intsR_len {n : Nat} : (intsR n).length = n := by simp [intsR]
theorem rng_go {n i : Nat} {M : Mem} (h : i < n) : (srcR 0 n).stp i M = some (some (.int (i : Nat))) := by
  show (if i < n then some (some (Dv.int (0 + i))) else some none) = _
  rw [if_pos h, Int.zero_add]
theorem rng_end {n : Nat} {M : Mem} : (srcR 0 n).stp n M = some none := by
  show (if n < n then some (some (Dv.int (0 + n))) else some none) = _
  rw [if_neg (Nat.lt_irrefl _)]
theorem rng_stp {n i : Nat} {M : Mem} : (srcR 0 n).stp i M = some (intsR n)[i]? := by
  by_cases h : i < n
  · rw [rng_go h]; simp [intsR, h]
  · show (if i < n then some (some (Dv.int (0 + i))) else some none) = _
    rw [if_neg h, List.getElem?_eq_none (by simpa [intsR] using h)]
theorem rgD_n {n : Nat} : rgD 0 (n : Nat) = intsR n := by
  unfold rgD intsR
  simp
theorem wp_tupR {env : En} {M : Mem} {fa : FE} {q : QE} (h : Wp (fa env M) fun d M1 => ∃ n : Nat, d = .int (n : Nat) ∧ n ≤ 1000 ∧ q (.tup (intsR n)) M1) : Wp (fTupR (fRg1 fa) env M) q := by
  obtain ⟨d, M1, e, n, rfl, hn, k⟩ := h
  refine ⟨_, M1, ?_, k⟩
  have hk : rgOk 0 (n : Nat) = true := by
    unfold rgOk
    rw [decide_eq_true_eq]
    omega
  unfold fTupR fRg1 bnd
  simp only [e, hk, if_true, rgD_n]
theorem wp_rngN {env : En} {M : Mem} {qi : Src → Mem → Prop} {fa : FE} (h : Wp (fa env M) fun d M1 => ∃ n : Nat, d = .int (n : Nat) ∧ n < 2 ^ 62 ∧ qi (srcR 0 n) M1) : Wp (fRng1 fa env M) qi := wp_rng1 (h.go fun d M1 ⟨n, e, h1, k⟩ => ⟨n, e, by omega, by simpa using k⟩)
end Zl

/-! text Y2 -/
namespace Zl
open PySem L2 PySem.Spec PyProof.Rows

/-! ## the same rules, each with a name for what it asks -/
section
variable {env e : En} {M : Mem} {d x : Dv} {fa fb : FE} {fr : FA} {q : QE} {Q : QS} {n k c np : Nat} {xs : List Dv} {fs : List (Str × Dv)} {fld m : Str} {F : FF}
def kFld (c : Nat) (fld : Str) (q : QE) : QE := fun d M => ∃ k fs x, d = .loc k ∧ M[k]? = some (.ins c fs) ∧ fs.lookup fld = some x ∧ q x M
theorem wq_fld (h : Wp (fa env M) (kFld c fld q)) : Wp (fFld c fld fa env M) q := wp_fld h
theorem k_fld (h : M[k]? = some (.ins c fs)) (hl : fs.lookup fld = some x) (hq : q x M) : kFld c fld q (.loc k) M := ⟨k, fs, x, rfl, h, hl, hq⟩
def kPut (c : Nat) (fld : Str) (y : Dv) (q : Mem → Prop) : QE := fun d M => ∃ k fs, d = .loc k ∧ M[k]? = some (.ins c fs) ∧ fs.length < 1000 ∧ q (M.set k (.ins c (putD fld y fs)))
theorem wq_put (h : Wp (fa env M) fun y M1 => Wp (fb env M1) (kPut c fld y fun M' => Q (.nx env) M')) : Wp (fPut c fld fb fa env M) Q := wp_put h
theorem k_put {y : Dv} {q : Mem → Prop} (h : M[k]? = some (.ins c fs)) (hl : fs.length.blt 1000 = true) (hq : q (M.set k (.ins c (putD fld y fs)))) : kPut c fld y q (.loc k) M := ⟨k, fs, rfl, h, by simpa using Nat.lt_of_lt_of_le (Nat.le_of_ble_eq_true hl) (Nat.le_refl _), hq⟩
def kIns (c : Nat) (m : Str) (q : QE) : QE := fun d M => isIns c m d M = true ∧ q d M
theorem k_ins (h : M[k]? = some (.ins c fs)) (hl : (fs.lookup m).isNone = true) (hq : q (.loc k) M) : kIns c m q (.loc k) M := ⟨ins_ok h hl, hq⟩
theorem wq_meth (h : Wp (fa env M) (kIns c m fun d M1 => Wp (fr env M1) (kLen (np - 1) fun ds M2 => 0 < np ∧ Wp (F (d :: ds) M2) q))) : Wp (fMeth c m np F fa fr env M) q :=
  wp_meth (h.go fun d M1 ⟨h1, h2⟩ => ⟨h1, h2.go fun ds M2 ⟨h3, h4, h5⟩ => ⟨by rw [List.length_cons, h3]; omega, h5⟩⟩)
def kPos (np : Nat) (P : Prop) : Prop := 0 < np ∧ P
theorem wq_meth' (h : Wp (fa env M) (kIns c m fun d M1 => Wp (fr env M1) (kLen (np - 1) fun ds M2 => kPos np (Wp (F (d :: ds) M2) q)))) : Wp (fMeth c m np F fa fr env M) q := wq_meth h
theorem k_pos {P : Prop} (h : P) : kPos (np + 1) P := ⟨by omega, h⟩
def kNon (q : Mem → Prop) : QE := fun d M => d = .non ∧ q M
theorem k_non {q : Mem → Prop} (h : q M) : kNon q .non M := ⟨rfl, h⟩
theorem wq_make (h : Wp (fr env M) (kLen (np - 1) fun ds M1 => kPos np (Wp (F (.loc M1.length :: ds) (M1 ++ [.ins c []])) (kNon fun M2 => q (.loc M1.length) M2)))) : Wp (fMake c np F fr env M) q :=
  wp_make (h.go fun ds M1 ⟨h1, h2, h3⟩ => ⟨by omega, h3.go fun d M2 ⟨h4, h5⟩ => ⟨h4, h5⟩⟩)
def kTy (T : String) (q : QE) : QE := fun d M => isTy T d M = true ∧ q d M
theorem k_tyL (h : M[n]? = some (.lst xs)) (hq : q (.loc n) M) : kTy "list" q (.loc n) M := ⟨ty_lst h, hq⟩
theorem k_tyT (hq : q (.tup xs) M) : kTy "tuple" q (.tup xs) M := ⟨rfl, hq⟩
theorem wq_m {T : String} {h : FM} (k : Wp (fa env M) (kTy T fun d M1 => Wp (fr env M1) fun ds M2 => Wp (h d ds M2) q)) : Wp (fM T h fa fr env M) q := wp_m k
def kSrc (qi : Src → Mem → Prop) : QE := fun d M => ∃ src, srcOf M d = some src ∧ qi src M
theorem wq_src {qi : Src → Mem → Prop} (h : Wp (fa env M) (kSrc qi)) : Wp (fSrc fa env M) qi := wp_src h
theorem k_srcL {qi : Src → Mem → Prop} (h : M[n]? = some (.lst xs)) (hq : qi ⟨xs.length, stpL n⟩ M) : kSrc qi (.loc n) M := ⟨_, src_loc h, hq⟩
def stpC (xs : List Dv) : Stp := fun i _ => some xs[i]?
theorem k_srcT {qi : Src → Mem → Prop} (hq : qi ⟨xs.length, stpC xs⟩ M) : kSrc qi (.tup xs) M := ⟨_, rfl, hq⟩
theorem k_srcR {qi : Src → Mem → Prop} (hq : qi ⟨xs.length, stpC xs⟩ M) : kSrc qi (.rol xs) M := ⟨_, rfl, hq⟩
def kInt (q : Int → Mem → Prop) : QE := fun d M => ∃ i, d = .int i ∧ q i M
theorem k_int {i : Int} {q : Int → Mem → Prop} (h : q i M) : kInt q (.int i) M := ⟨i, rfl, h⟩
theorem wq_P {qo : Option Int → Mem → Prop} (h : Wp (fa env M) (kInt fun i M1 => qo (some i) M1)) : Wp (fP fa env M) qo := wp_P h
def kNat (q : Nat → Mem → Prop) : QE := fun d M => ∃ n : Nat, d = .int (n : Nat) ∧ q n M
theorem k_nat {q : Nat → Mem → Prop} (h : q n M) : kNat q (.int (n : Nat)) M := ⟨n, rfl, h⟩
theorem k_natL {l : Nat} {q : Nat → Mem → Prop} (h : q l M) : kNat q (.int (OfNat.ofNat l : Int)) M := ⟨l, rfl, h⟩
theorem k_natI {i : Int} {q : Nat → Mem → Prop} (n : Nat) (e : i = n) (h : q n M) : kNat q (.int i) M := ⟨n, by rw [e], h⟩
def kSml (n : Nat) (P : Prop) : Prop := n < 2 ^ 62 ∧ P
theorem k_sml {P : Prop} (h : n < 2 ^ 62) (p : P) : kSml n P := ⟨h, p⟩
theorem wq_rng {qi : Src → Mem → Prop} (h : Wp (fa env M) (kNat fun n M1 => kSml n (qi (srcR 0 n) M1))) : Wp (fRng1 fa env M) qi := wp_rngN h
def kSet (o i d : Dv) (q : Mem → Prop) (M : Mem) : Prop := ∃ M3, setE o i d M = some M3 ∧ q M3
theorem wq_gS {fo fi : FE} {qe : En → Mem → Prop} (h : Wp (fo env M) fun o M1 => Wp (fi env M1) fun i M2 => kSet o i d (fun M3 => qe env M3) M2) : Wp (gSE fo fi d env M) qe := wp_gS h
theorem k_set {j : Nat} {i : Int} {q : Mem → Prop} (hm : M[n]? = some (.lst xs)) (hj : ixN xs.length i = some j) (h : q (M.set n (.lst (xs.set j d)))) : kSet (.loc n) (.int i) d q M := ⟨_, set_i hm hj, h⟩
theorem k_setN {j : Nat} {q : Mem → Prop} (hm : M[n]? = some (.lst xs)) (hj : j < xs.length) (h : q (M.set n (.lst (xs.set j d)))) : kSet (.loc n) (.int (j : Nat)) d q M := ⟨_, set_at hm hj, h⟩
/-- for x in a tuple or a locked list: turn by turn -/
theorem stpC_go {i : Nat} (h : xs[i]? = some d) : stpC xs i M = some (some d) := by unfold stpC; rw [h]
theorem stpC_end : stpC xs xs.length M = some none := by unfold stpC; simp
theorem stpL_go {i : Nat} (hm : M[n]? = some (.lst xs)) (h : xs[i]? = some d) : stpL n i M = some (some d) := by rw [stpL_at hm, h]
theorem stpL_end (hm : M[n]? = some (.lst xs)) : stpL n xs.length M = some none := by rw [stpL_at hm]; simp
end
theorem Kp.tl {W W' : Nat → Prop} {M M1 M2 : Mem} (b : Kp W' M1 M2) (a : Kp W M M1) (h : ∀ n, n < M.length → W' n → W n) : Kp W M M2 := a.trans b h
theorem Kp.setl {W : Nat → Prop} {M M1 : Mem} {n : Nat} {o : Ob} (a : Kp W M M1) (h : n < M.length → W n) : Kp W M (M1.set n o) := a.trans (Kp.set (W := fun m => m = n) fun _ => rfl) fun m hm e => by subst e; exact h hm
theorem Kp.appl {W : Nat → Prop} {M M1 : Mem} {L : Mem} (a : Kp W M M1) : Kp W M (M1 ++ L) := a.trans (Kp.app (W := fun _ => False) _) fun _ _ h => h.elim
theorem wp_inT {b : Bool} {x : Dv} {ys : List Dv} {M : Mem} {q : QE} (h : inE b x (.tup ys) M = some (.bl (xor b (ys.any fun y => eqF y x)), M)) (k : q (.bl (xor b (ys.any fun y => eqF y x))) M) : Wp (inE b x (.tup ys) M) q := wp_ev h k
end Zl
namespace Zl
open PySem L2 PySem.Spec PyProof.Rows
def kNew (o : Ob) (q : Nat → Mem → Prop) (M : Mem) : Prop := ∀ n M2, n = M.length → M2[n]? = some o → Kp NoW M M2 → M2.length = n + 1 → q n M2
theorem k_new {o : Ob} {q : Nat → Mem → Prop} {M : Mem} (h : ∀ n M2, n = M.length → M2[n]? = some o → Kp NoW M M2 → M2.length = n + 1 → q n M2) : kNew o q M := h
theorem wq_lst {env : En} {M : Mem} {fr : FA} {q : QE} (h : Wp (fr env M) (kLe fun ds M1 => kNew (.lst ds) (fun n M2 => q (.loc n) M2) M1)) : Wp (fLst fr env M) q := wp_lstA h
theorem wq_make2 {env : En} {M : Mem} {fr : FA} {q : QE} {c np : Nat} {F : FF} (h : Wp (fr env M) (kLen (np - 1) fun ds M1 => kPos np (kNew (.ins c []) (fun n M2 => Wp (F (.loc n :: ds) M2) (kNon fun M3 => q (.loc n) M3)) M1))) : Wp (fMake c np F fr env M) q :=
  wq_make (h.go fun ds M1 ⟨h1, h2, h3⟩ => ⟨h1, h2, h3 _ _ rfl at_new (.app _) (by simp)⟩)
def kMulN (n : Nat) (P : Prop) : Prop := n ≤ 1000 ∧ P
theorem wq_mulL {n : Nat} {xs : List Dv} {k : Nat} {M : Mem} {q : QE} (hm : M[n]? = some (.lst xs)) (h1 : xs.length ≤ 16) (h2 : k ≤ 100000)
    (c : kNew (.lst (List.replicate k xs).flatten) (fun m M2 => q (.loc m) M2) M) : Wp (mulD (.loc n) (.int (k : Nat)) M) q :=
  wp_mulL hm (Nat.le_trans (Nat.mul_le_mul h1 h2) (by decide)) (by omega) c
theorem wq_slR {xs : List Dv} {lo hi : Option Int} {M : Mem} {q : QE} (k : kNew (.lst (cutD xs lo hi)) (fun n M2 => q (.loc n) M2) M) : Wp (slD (.rol xs) lo hi M) q := wp_slR k
theorem wq_slL {m : Nat} {xs : List Dv} {lo hi : Option Int} {M : Mem} {q : QE} (hm : M[m]? = some (.lst xs)) (k : kNew (.lst (cutD xs lo hi)) (fun n M2 => q (.loc n) M2) M) : Wp (slD (.loc m) lo hi M) q := by
  refine wp_ev (a := .loc M.length) (M' := M ++ [.lst (cutD xs lo hi)]) ?_ (k _ _ rfl at_new (.app _) (by simp))
  unfold slD
  simp only [hm]
/-- a comprehension that writes nothing else -/
def kLc (fe : FE) (ft : FT) (env : En) (v : Nat) (vs : List Nat) (p : Dv → Bool) (φ : Dv → Dv) (q : QE) : Src → Mem → Prop := fun src M1 => ∃ xs : List Dv, src.many = xs.length ∧ xs.length ≤ sizeLine ∧ (∀ i M', Kp NoW M1 M' → i ≤ xs.length → src.stp i M' = some xs[i]?) ∧
      (∀ x ∈ xs, ∀ M', Kp NoW M1 M' → Wp (ft ((wipeE env vs).set v (some x)) M') fun b M2 => b = p x ∧ Kp NoW M' M2) ∧
      (∀ x ∈ xs, ∀ M', Kp NoW M1 M' → Wp (fe ((wipeE env vs).set v (some x)) M') fun y M3 => y = φ x ∧ Kp NoW M' M3) ∧
      ∀ M', Kp NoW M1 M' → M'[M1.length]? = some (.lst ((xs.filter p).map φ)) → q (.loc M1.length) M'
theorem wq_lcF {fi : FI} {ft : FT} {fe : FE} {env : En} {M : Mem} {q : QE} {v : Nat} {vs : List Nat} (p : Dv → Bool) (φ : Dv → Dv) (h : Wp (fi env M) (kLc fe ft env v vs p φ q)) : Wp (fComp fi vs (gN v) ft fe env M) q := wp_lcF p φ h
def kMap (fe : FE) (env : En) (v : Nat) (vs : List Nat) (φ : Dv → Dv) (q : QE) : Src → Mem → Prop := fun src M1 => ∃ xs : List Dv, src.many = xs.length ∧ xs.length ≤ sizeLine ∧ (∀ i M', Kp NoW M1 M' → i ≤ xs.length → src.stp i M' = some xs[i]?) ∧
      (∀ x ∈ xs, ∀ M', Kp NoW M1 M' → Wp (fe ((wipeE env vs).set v (some x)) M') fun y M3 => y = φ x ∧ Kp NoW M' M3) ∧
      ∀ n M', n = M1.length → M1.length < M'.length → Kp NoW M1 M' → M'[n]? = some (.lst (xs.map φ)) → q (.loc n) M'
theorem wq_map {fi : FI} {fe : FE} {env : En} {M : Mem} {q : QE} {v : Nat} {vs : List Nat} (φ : Dv → Dv) (h : Wp (fi env M) (kMap fe env v vs φ q)) : Wp (fComp fi vs (gN v) fYes fe env M) q :=
  wp_lcP φ (h.go fun src M1 ⟨xs, h1, h2, h3, h4, h5⟩ => ⟨xs, h1, h2, h3, h4, fun M' k g => h5 _ _ rfl (lt_of g) k g⟩)
section
variable {fe : FE} {env : En} {v n : Nat} {vs : List Nat} {φ : Dv → Dv} {q : QE} {xs : List Dv} {M : Mem}
theorem k_mapT (hl : xs.length ≤ sizeLine) (he : ∀ x ∈ xs, ∀ M', Kp NoW M M' → Wp (fe ((wipeE env vs).set v (some x)) M') fun y M3 => y = φ x ∧ Kp NoW M' M3)
    (hq : ∀ n M', n = M.length → M.length < M'.length → Kp NoW M M' → M'[n]? = some (.lst (xs.map φ)) → q (.loc n) M') : kMap fe env v vs φ q ⟨xs.length, stpC xs⟩ M := ⟨xs, rfl, hl, fun _ _ _ _ => rfl, he, hq⟩
theorem k_mapL {m : Nat} (hm : M[m]? = some (.lst xs)) (hl : xs.length ≤ sizeLine) (he : ∀ x ∈ xs, ∀ M', Kp NoW M M' → Wp (fe ((wipeE env vs).set v (some x)) M') fun y M3 => y = φ x ∧ Kp NoW M' M3)
    (hq : ∀ n M', n = M.length → M.length < M'.length → Kp NoW M M' → M'[n]? = some (.lst (xs.map φ)) → q (.loc n) M') : kMap fe env v vs φ q ⟨xs.length, stpL m⟩ M := ⟨xs, rfl, hl, fun _ M' k _ => stpL_at (k.at hm id), he, hq⟩
theorem k_mapR {m : Nat} (hl : m ≤ sizeLine) (he : ∀ j : Nat, j < m → ∀ M', Kp NoW M M' → Wp (fe ((wipeE env vs).set v (some (.int (j : Nat)))) M') fun y M3 => y = φ (.int (j : Nat)) ∧ Kp NoW M' M3)
    (hq : ∀ n M', n = M.length → M.length < M'.length → Kp NoW M M' → M'[n]? = some (.lst ((intsR m).map φ)) → q (.loc n) M') : kMap fe env v vs φ q (srcR 0 m) M :=
  ⟨intsR m, intsR_len.symm, by rw [intsR_len]; exact hl, fun _ _ _ _ => rng_stp, fun x hx => by
    unfold intsR at hx
    obtain ⟨j, hj, rfl⟩ := List.mem_map.mp hx
    exact he j (List.mem_range.mp hj), hq⟩
end
theorem size_le {n : Nat} (h : n ≤ 16000000) : n ≤ sizeLine := Nat.le_trans h (by decide)
theorem size_lt {n : Nat} (h : n ≤ 16000000) : n < sizeLine := Nat.lt_of_le_of_lt h (by decide)
/-- a for over a range -/
theorem wq_forR {env : En} {M : Mem} {g : FG} {f : FS} {Q : QS} {n : Nat} (I : Nat → En → Mem → Prop) (h0 : I 0 env M) (h1 : ∀ i env M, i < n → I i env M → Wp (g (.int (i : Nat)) env M) fun e1 M1 => Wp (f e1 M1) (kLoop (I (i + 1)) Q)) (h2 : ∀ env M, I n env M → Q (.nx env) M) :
    I 0 env M ∧ (∀ i env M, i < (srcR 0 n).many → I i env M → ∃ d, (srcR 0 n).stp i M = some (some d) ∧ Wp (g d env M) fun e1 M1 => Wp (f e1 M1) (kLoop (I (i + 1)) Q)) ∧ ∀ env M, I (srcR 0 n).many env M → (srcR 0 n).stp (srcR 0 n).many M = some none ∧ Q (.nx env) M :=
  ⟨h0, fun i env M hi hh => ⟨_, rng_go hi, h1 i env M hi hh⟩, fun env M hh => ⟨rng_end, h2 env M hh⟩⟩
/-- a for over a tuple -/
theorem wq_forT {env : En} {M : Mem} {g : FG} {f : FS} {Q : QS} {xs : List Dv} (I : Nat → En → Mem → Prop) (h0 : I 0 env M) (h1 : ∀ i d env M, xs[i]? = some d → I i env M → Wp (g d env M) fun e1 M1 => Wp (f e1 M1) (kLoop (I (i + 1)) Q)) (h2 : ∀ env M, I xs.length env M → Q (.nx env) M) :
    I 0 env M ∧ (∀ i env M, i < (Src.mk xs.length (stpC xs)).many → I i env M → ∃ d, (Src.mk xs.length (stpC xs)).stp i M = some (some d) ∧ Wp (g d env M) fun e1 M1 => Wp (f e1 M1) (kLoop (I (i + 1)) Q)) ∧ ∀ env M, I (Src.mk xs.length (stpC xs)).many env M → (Src.mk xs.length (stpC xs)).stp (Src.mk xs.length (stpC xs)).many M = some none ∧ Q (.nx env) M :=
  ⟨h0, fun i env M hi hh => ⟨xs[i]'hi, stpC_go (M := M) (List.getElem?_eq_getElem hi), h1 i _ env M (List.getElem?_eq_getElem hi) hh⟩, fun env M hh => ⟨stpC_end (M := M), h2 env M hh⟩⟩
/-- a for over a list that stays -/
theorem wq_forL {env : En} {M : Mem} {g : FG} {f : FS} {Q : QS} {xs : List Dv} {m : Nat} (I : Nat → En → Mem → Prop) (hm : ∀ i env M, I i env M → M[m]? = some (.lst xs)) (h0 : I 0 env M) (h1 : ∀ i d env M, xs[i]? = some d → I i env M → Wp (g d env M) fun e1 M1 => Wp (f e1 M1) (kLoop (I (i + 1)) Q)) (h2 : ∀ env M, I xs.length env M → Q (.nx env) M) :
    I 0 env M ∧ (∀ i env M, i < (Src.mk xs.length (stpL m)).many → I i env M → ∃ d, (Src.mk xs.length (stpL m)).stp i M = some (some d) ∧ Wp (g d env M) fun e1 M1 => Wp (f e1 M1) (kLoop (I (i + 1)) Q)) ∧ ∀ env M, I (Src.mk xs.length (stpL m)).many env M → (Src.mk xs.length (stpL m)).stp (Src.mk xs.length (stpL m)).many M = some none ∧ Q (.nx env) M :=
  ⟨h0, fun i env M hi hh => ⟨xs[i]'hi, stpL_go (hm i env M hh) (List.getElem?_eq_getElem hi), h1 i _ env M (List.getElem?_eq_getElem hi) hh⟩, fun env M hh => ⟨stpL_end (hm _ env M hh), h2 env M hh⟩⟩
section
variable {M : Mem} {k c n : Nat} {fs : List (Str × Dv)} {fld : Str} {y d : Dv} {xs : List Dv} {q : Mem → Prop}
/-- a cell written: the memory behind it by what is known -/
def kWr (n : Nat) (o : Ob) (q : Mem → Prop) (M : Mem) : Prop := ∀ M', M'[n]? = some o → Kp (fun m => m = n) M M' → M'.length = M.length → q M'
theorem k_wr {o : Ob} (h : ∀ M', M'[n]? = some o → Kp (fun m => m = n) M M' → M'.length = M.length → q M') : kWr n o q M := h
theorem k_putO (h : M[k]? = some (.ins c fs)) (hl : fs.length.blt 1000 = true) (hq : kWr k (.ins c (putD fld y fs)) q M) : kPut c fld y q (.loc k) M := k_put h hl (hq _ (at_set h) (.set fun _ => rfl) (by simp))
theorem k_setO {j : Nat} {i : Int} (hm : M[n]? = some (.lst xs)) (hj : ixN xs.length i = some j) (h : kWr n (.lst (xs.set j d)) q M) : kSet (.loc n) (.int i) d q M := k_set hm hj (h _ (at_set hm) (.set fun _ => rfl) (by simp))
theorem k_setNO {j : Nat} (hm : M[n]? = some (.lst xs)) (hj : j < xs.length) (h : kWr n (.lst (xs.set j d)) q M) : kSet (.loc n) (.int (j : Nat)) d q M := k_setN hm hj (h _ (at_set hm) (.set fun _ => rfl) (by simp))
theorem wq_append {x : Dv} {q : QE} (hm : M[n]? = some (.lst xs)) (h : xs.length < sizeLine) (k : kWr n (.lst (xs ++ [x])) (fun M' => q .non M') M) : Wp (appendD (.loc n) [x] M) q := wp_append hm h (k _ (at_set hm) (.set fun _ => rfl) (by simp))
end
end Zl

/-! text Y3 -/
namespace Zl
open PySem L2 PySem.Spec PyProof.Rows

/-! ## turn by turn, without an invariant -/
section
variable {env : En} {M : Mem} {g : FG} {f : FS} {it : Stp} {Q : QS} {k i n : Nat} {d : Dv} {ft : FT} {fe : FE} {fi : FI} {e0 : En} {q : QE} {vs : List Nat}
def kTurn (it : Stp) (g : FG) (f : FS) (k i : Nat) (Q : QS) : QS := fun fl M => match fl with
  | .nx e => Wp (loopF it g f k i e M) Q
  | .ct e => Wp (loopF it g f k i e M) Q
  | .bk e => Q (.nx e) M
  | .rt d => Q (.rt d) M
theorem kt_nx {e : En} (h : Wp (loopF it g f k i e M) Q) : kTurn it g f k i Q (.nx e) M := h
theorem kt_ct {e : En} (h : Wp (loopF it g f k i e M) Q) : kTurn it g f k i Q (.ct e) M := h
theorem kt_bk {e : En} (h : Q (.nx e) M) : kTurn it g f k i Q (.bk e) M := h
theorem kt_rt (h : Q (.rt d) M) : kTurn it g f k i Q (.rt d) M := h
theorem wu_go (h : it i M = some (some d)) (w : Wp (g d env M) fun e1 M1 => Wp (f e1 M1) (kTurn it g f k (i + 1) Q)) : Wp (loopF it g f (k + 1) i env M) Q := by
  unfold loopF
  simp only [h]
  refine wp_bnd (w.go fun e1 M1 w => wp_bnd (w.go fun fl M2 w => ?_))
  cases fl with
  | nx e => exact w
  | ct e => exact w
  | bk e => exact wp_ok w
  | rt d => exact wp_ok w
theorem wu_end (h : it i M = some none) (w : Q (.nx env) M) : Wp (loopF it g f k i env M) Q := by
  cases k with
  | zero => unfold loopF; simp only [h]; exact wp_ok w
  | succ k => unfold loopF; simp only [h]; exact wp_ok w
theorem wu_for (h : Wp (fi env M) fun src M1 => Wp (loopF src.stp g f src.many 0 env M1) Q) : Wp (fFor fi g f env M) Q := wp_bnd h
/-- a comprehension's turns -/
def Wc (r : Option Mem) (q : Mem → Prop) : Prop := ∃ M, r = some M ∧ q M
def kAcc (n : Nat) (y : Dv) (q : Mem → Prop) (M : Mem) : Prop := ∃ acc, M[n]? = some (.lst acc) ∧ acc.length < sizeLine ∧ kWr n (.lst (acc ++ [y])) q M
theorem k_acc {acc : List Dv} {y : Dv} {q : Mem → Prop} (h : M[n]? = some (.lst acc)) (hl : acc.length.blt 1000 = true) (w : kWr n (.lst (acc ++ [y])) q M) : kAcc n y q M :=
  ⟨acc, h, size_lt (by have := Nat.le_of_ble_eq_true hl; omega), w⟩
theorem wuc_go {qm : Mem → Prop} (h : it i M = some (some d)) (w : Wp (g d e0 M) fun e1 M1 => Wp (ft e1 M1) (kIf (fun M2 => bnd (fe e1 M2) fun y M3 => some (some y, M3)) (fun M2 => some (none, M2)) fun o M3 => match o with
      | some y => kAcc n y (fun M4 => Wc (compF it g ft fe e0 n k (i + 1) M4) qm) M3
      | none => Wc (compF it g ft fe e0 n k (i + 1) M3) qm)) : Wc (compF it g ft fe e0 n (k + 1) i M) qm := by
  obtain ⟨e1, M1, h1, b, M2, h2, w⟩ := w
  unfold compF
  simp only [h, h1]
  cases b with
  | false =>
    obtain ⟨o, M3, h3, w⟩ := w
    cases h3
    simp only [h2]
    exact w
  | true =>
    obtain ⟨o, M3, h3, w⟩ := w
    obtain ⟨y, M4, h4, h5⟩ := bnd_some h3
    cases h5
    obtain ⟨acc, w1, w2, w3⟩ := w
    simp only [h2, h4, w1, if_pos w2]
    exact w3 _ (at_set w1) (.set fun _ => rfl) (by simp)
theorem wuc_map {qm : Mem → Prop} (h : it i M = some (some d)) (w : Wp (g d e0 M) fun e1 M1 => Wp (fe e1 M1) fun y M3 => kAcc n y (fun M4 => Wc (compF it g fYes fe e0 n k (i + 1) M4) qm) M3) : Wc (compF it g fYes fe e0 n (k + 1) i M) qm :=
  wuc_go h (w.go fun e1 M1 w => wp_ok (by
    show Wp (bnd _ _) _
    exact wp_bnd (w.go fun y M3 w => wp_ok w)))
theorem wuc_end {qm : Mem → Prop} (h : it i M = some none) (w : qm M) : Wc (compF it g ft fe e0 n k i M) qm := by
  cases k with
  | zero => exact ⟨M, by unfold compF; simp only [h], w⟩
  | succ k => exact ⟨M, by unfold compF; simp only [h], w⟩
theorem wu_comp (h : Wp (fi env M) fun src M1 => kNew (.lst []) (fun n M2 => Wc (compF src.stp g ft fe (wipeE env vs) n src.many 0 M2) fun M3 => q (.loc n) M3) M1) : Wp (fComp fi vs g ft fe env M) q := by
  refine wp_bnd (h.go fun src M1 h => ?_)
  obtain ⟨M3, e, w⟩ := h _ _ rfl at_new (.app _) (by simp)
  show Wp (match compF _ _ _ _ _ _ _ _ _ with | some M2 => some (Dv.loc M1.length, M2) | none => none) q
  rw [e]; exact wp_ok w
end
section
variable {env : En} {M : Mem} {g : FG} {f : FS} {it : Stp} {Q : QS} {k m i n : Nat} {d : Dv} {fe : FE} {e0 : En}
theorem wv_map {qm : Mem → Prop} (hk : m = k + 1) (h : it i M = some (some d)) (w : Wp (g d e0 M) fun e1 M1 => Wp (fe e1 M1) fun y M3 => kAcc n y (fun M4 => Wc (compF it g fYes fe e0 n k (i + 1) M4) qm) M3) : Wc (compF it g fYes fe e0 n m i M) qm := by
  subst hk; exact wuc_map h w
theorem wv_go (hk : m = k + 1) (h : it i M = some (some d)) (w : Wp (g d env M) fun e1 M1 => Wp (f e1 M1) (kTurn it g f k (i + 1) Q)) : Wp (loopF it g f m i env M) Q := by
  subst hk; exact wu_go h w
end
/-! ## == by what is read -/
theorem wq_eqD {b : Bool} {x y : Dv} {M : Mem} {Q : QE} {p q : PyData} (hx : rd M deep x = some p) (hy : rd M deep y = some q) (sp : SeqAt.shaped p = true) (sq : SeqAt.shaped q = true)
    (k : Q (.bl (xor b (PyData.eqv p q))) M) : Wp (eqD b x y M) Q := by
  unfold eqD
  split
  · cases hx; cases hy
    refine wp_ok ?_
    exact k
  · cases hx; cases hy
    refine wp_ok ?_
    exact k
  · simp only [hx, hy]
    rw [if_pos ⟨sp, sq⟩]
    exact wp_ok k
theorem rd_loc {M : Mem} {n k : Nat} {xs : List Dv} {ps : List PyData} (h : M[k]? = some (.lst xs)) (hx : rdL (rd M n) xs = some ps) : rd M (n + 1) (.loc k) = some (.list ps) := by
  show (match M[k]? with | some (.lst xs) => (match rdL (rd M n) xs with | some ps => some (PyData.list ps) | none => none) | _ => none) = _
  rw [h]; simp only [hx]
theorem rd_tup {M : Mem} {n : Nat} {xs : List Dv} {ps : List PyData} (hx : rdL (rd M n) xs = some ps) : rd M (n + 1) (.tup xs) = some (.tuple ps) := by
  show (match rdL (rd M n) xs with | some ps => some (PyData.tuple ps) | none => none) = _
  rw [hx]
theorem rdL_nil {f : Dv → Option PyData} : rdL f [] = some [] := rfl
theorem rdL_cons {f : Dv → Option PyData} {x : Dv} {xs : List Dv} {p : PyData} {ps : List PyData} (h : f x = some p) (hs : rdL f xs = some ps) : rdL f (x :: xs) = some (p :: ps) := by
  unfold rdL; rw [h, hs]
theorem rd_bls {M : Mem} {n : Nat} : ∀ bs : List Bool, rdL (rd M n) (bs.map Dv.bl) = some (bs.map .bool)
  | [] => rfl
  | b :: bs => by
    rw [List.map_cons, List.map_cons]
    exact rdL_cons (by cases n <;> rfl) (rd_bls bs)
/-! ## for, by an invariant -/
def kFor (I : Nat → En → Mem → Prop) (g : FG) (f : FS) (env : En) (Q : QS) : Src → Mem → Prop := fun src M1 => I 0 env M1 ∧
      (∀ i env M, i < src.many → I i env M → ∃ d, src.stp i M = some (some d) ∧ Wp (g d env M) fun e1 M1 => Wp (f e1 M1) (kLoop (I (i + 1)) Q)) ∧
      ∀ env M, I src.many env M → src.stp src.many M = some none ∧ Q (.nx env) M
section
variable {env : En} {M : Mem} {g : FG} {f : FS} {Q : QS} {n m : Nat} {fi : FI} {xs : List Dv} {I : Nat → En → Mem → Prop}
theorem wq_for (I : Nat → En → Mem → Prop) (h : Wp (fi env M) (kFor I g f env Q)) : Wp (fFor fi g f env M) Q := wp_for I h
theorem k_forR (h0 : I 0 env M) (h1 : ∀ i env M, i < n → I i env M → Wp (g (.int (i : Nat)) env M) fun e1 M1 => Wp (f e1 M1) (kLoop (I (i + 1)) Q)) (h2 : ∀ env M, I n env M → Q (.nx env) M) : kFor I g f env Q (srcR 0 n) M := wq_forR I h0 h1 h2
theorem k_forT (h0 : I 0 env M) (h1 : ∀ i d env M, xs[i]? = some d → I i env M → Wp (g d env M) fun e1 M1 => Wp (f e1 M1) (kLoop (I (i + 1)) Q)) (h2 : ∀ env M, I xs.length env M → Q (.nx env) M) : kFor I g f env Q ⟨xs.length, stpC xs⟩ M := wq_forT I h0 h1 h2
theorem k_forL (hm : ∀ i env M, I i env M → M[m]? = some (.lst xs)) (h0 : I 0 env M) (h1 : ∀ i d env M, xs[i]? = some d → I i env M → Wp (g d env M) fun e1 M1 => Wp (f e1 M1) (kLoop (I (i + 1)) Q)) (h2 : ∀ env M, I xs.length env M → Q (.nx env) M) : kFor I g f env Q ⟨xs.length, stpL m⟩ M := wq_forL I hm h0 h1 h2
end
/-- both ways meet -/
theorem k_join {α : Type} {f g : Mem → Option (α × Mem)} {Q : α → Mem → Prop} {b : Bool} {M : Mem} (P : α → Mem → Prop) (h1 : b = true → Wp (f M) P) (h2 : b = false → Wp (g M) P) (h : ∀ a M', P a M' → Q a M') : kIf f g Q b M := by
  cases b with
  | true => exact (h1 rfl).go h
  | false => exact (h2 rfl).go h
end Zl

/-! text Y4 -/
namespace Zl
open PySem L2 PySem.Spec PyProof.Rows
theorem wq_addL {m n : Nat} {xs ys : List Dv} {M : Mem} {q : QE} (hm : M[m]? = some (.lst xs)) (hn : M[n]? = some (.lst ys)) (hl : xs.length + ys.length ≤ 16000000)
    (c : kNew (.lst (xs ++ ys)) (fun k M2 => q (.loc k) M2) M) : Wp (addD (.loc m) (.loc n) M) q := by
  refine wp_ev (a := .loc M.length) (M' := M ++ [.lst (xs ++ ys)]) ?_ (c _ _ rfl at_new (.app _) (by simp))
  unfold addD
  simp only [hm, hn]
  rw [if_pos (size_le hl)]
theorem wq_addT {xs ys : List Dv} {M : Mem} {q : QE} (h : xs.length + ys.length ≤ 16000000) (k : q (.tup (xs ++ ys)) M) : Wp (addD (.tup xs) (.tup ys) M) q := wp_addT (Nat.le_trans h (by decide)) k
theorem wq_lstT {xs : List Dv} {M : Mem} {q : QE} (c : kNew (.lst xs) (fun k M2 => q (.loc k) M2) M) : Wp (lstD [.tup xs] M) q :=
  wp_ev (a := .loc M.length) (M' := M ++ [.lst xs]) rfl (c _ _ rfl at_new (.app _) (by simp))
theorem wq_lstL {n : Nat} {xs : List Dv} {M : Mem} {q : QE} (hm : M[n]? = some (.lst xs)) (c : kNew (.lst xs) (fun k M2 => q (.loc k) M2) M) : Wp (lstD [.loc n] M) q := by
  refine wp_ev (a := .loc M.length) (M' := M ++ [.lst xs]) ?_ (c _ _ rfl at_new (.app _) (by simp))
  unfold lstD itemsD
  simp only [hm]
/-! zip, enumerate -/
def kZip (qi : Src → Mem → Prop) (d : Dv) : QE := fun e M => ∃ src, srcZ M d e = some src ∧ qi src M
theorem wq_zip {env : En} {M : Mem} {qi : Src → Mem → Prop} {fa fb : FE} (h : Wp (fa env M) fun d M1 => Wp (fb env M1) (kZip qi d)) : Wp (fZip fa fb env M) qi :=
  wp_bnd (h.go fun d M1 h => wp_bnd (h.go fun e M2 ⟨s, e1, k⟩ => by
    show Wp (match srcZ M2 d e with | some s => some (s, M2) | none => none) _
    rw [e1]; exact wp_ok k))
def stpZ (xs ys : List Dv) : Stp := fun i _ => some (zipAt xs ys i)
theorem k_zipT {xs ys : List Dv} {M : Mem} {qi : Src → Mem → Prop} (h : qi ⟨min xs.length ys.length, stpZ xs ys⟩ M) : kZip qi (.tup xs) (.tup ys) M := ⟨_, rfl, h⟩
theorem zip_at {xs ys : List Dv} {i : Nat} {x y : Dv} (h : xs[i]? = some x) (h' : ys[i]? = some y) : zipAt xs ys i = some (.pr [x, y]) := by unfold zipAt; rw [h, h']
theorem zip_end {xs ys : List Dv} : zipAt xs ys (min xs.length ys.length) = none := by
  unfold zipAt
  by_cases h : xs.length ≤ ys.length
  · rw [Nat.min_eq_left h, List.getElem?_eq_none (Nat.le_refl _)]
  · rw [Nat.min_eq_right (by omega), List.getElem?_eq_none (l := ys) (Nat.le_refl _)]
    cases xs[ys.length]? <;> rfl
def kEnum (qi : Src → Mem → Prop) : QE := fun d M => ∃ src, srcE M d = some src ∧ qi src M
theorem wq_enum {env : En} {M : Mem} {qi : Src → Mem → Prop} {fa : FE} (h : Wp (fa env M) (kEnum qi)) : Wp (fEnum fa env M) qi := wp_enum h
def stpE (xs : List Dv) : Stp := fun i _ => if i ≤ xs.length then some (pairs xs i) else none
theorem k_enumT {xs : List Dv} {M : Mem} {qi : Src → Mem → Prop} (h : qi ⟨xs.length, stpE xs⟩ M) : kEnum qi (.tup xs) M := ⟨_, rfl, h⟩
theorem stpE_go {xs : List Dv} {i : Nat} {x : Dv} {M : Mem} (h : xs[i]? = some x) : stpE xs i M = some (some (.pr [.int (i : Nat), x])) := by
  have := (List.getElem?_eq_some_iff.mp h).1
  unfold stpE pairs
  rw [if_pos (by omega), h]; rfl
theorem stpE_end {xs : List Dv} {M : Mem} : stpE xs xs.length M = some none := by
  unfold stpE pairs
  rw [if_pos (Nat.le_refl _), List.getElem?_eq_none (Nat.le_refl _)]; rfl
theorem k_forE {env : En} {M : Mem} {g : FG} {f : FS} {Q : QS} {xs : List Dv} {I : Nat → En → Mem → Prop} (h0 : I 0 env M) (h1 : ∀ i d env M, xs[i]? = some d → I i env M → Wp (g (.pr [.int (i : Nat), d]) env M) fun e1 M1 => Wp (f e1 M1) (kLoop (I (i + 1)) Q)) (h2 : ∀ env M, I xs.length env M → Q (.nx env) M) : kFor I g f env Q ⟨xs.length, stpE xs⟩ M :=
  ⟨h0, fun i env M hi hh => ⟨_, stpE_go (M := M) (List.getElem?_eq_getElem hi), h1 i _ env M (List.getElem?_eq_getElem hi) hh⟩, fun env M hh => ⟨stpE_end (M := M), h2 env M hh⟩⟩
/-! ## comprehensions by any target: what each item gives -/
/-- [e for t in xs if c], nothing else written -/
theorem wq_lcG {fi : FI} {g : FG} {ft : FT} {fe : FE} {env : En} {M : Mem} {q : QE} {vs : List Nat} (p : Nat → Bool) (φ : Nat → Dv)
    (h : Wp (fi env M) fun src M1 => src.many ≤ 16000000 ∧ (∀ i M', Kp NoW M1 M' → i < src.many → ∃ d, src.stp i M' = some (some d) ∧ Wp (g d (wipeE env vs) M') fun e1 M2 => Wp (ft e1 M2) fun b M3 => b = p i ∧ Kp NoW M' M3 ∧ (p i = true → Wp (fe e1 M3) fun y M4 => y = φ i ∧ Kp NoW M3 M4)) ∧
      (∀ M', Kp NoW M1 M' → src.stp src.many M' = some none) ∧
      ∀ n M', n = M1.length → M1.length < M'.length → Kp NoW M1 M' → M'[n]? = some (.lst (((List.range src.many).filter p).map φ)) → q (.loc n) M') : Wp (fComp fi vs g ft fe env M) q := by
  refine wp_bnd (h.go fun src M1 ⟨h0, h1, h2, h3⟩ => ?_)
  have key : ∃ M', compF src.stp g ft fe (wipeE env vs) M1.length src.many 0 (M1 ++ [.lst []]) = some M' ∧ q (.loc M1.length) M' := by
    refine wp_compI (fun i acc M' => i ≤ src.many ∧ acc = ((List.range i).filter p).map φ ∧ Kp NoW M1 M' ∧ M'[M1.length]? = some (.lst acc)) src.many (fun i acc M' hh => hh.2.2.2) ?_ ?_ src.many 0 [] _ (by omega) ⟨Nat.zero_le _, rfl, .app _, at_new⟩
    · rintro i acc M' hi ⟨a0, a1, a2, a4⟩
      obtain ⟨d, e1, w⟩ := h1 i M' a2 hi
      refine ⟨d, e1, ?_⟩
      obtain ⟨env1, M2, w1, w⟩ := w
      refine ⟨env1, M2, w1, ?_⟩
      refine w.go fun b M3 ⟨b1, b2, b3⟩ => ?_
      have er : (List.range (i + 1)) = List.range i ++ [i] := List.range_succ
      cases hb : p i with
      | false =>
        rw [b1, hb]
        refine ⟨by omega, ?_, a2.tr b2, b2.at a4 id⟩
        rw [er, List.filter_append, List.filter_cons, if_neg (by rw [hb]; decide)]; simpa using a1
      | true =>
        rw [b1, hb]
        refine (b3 hb).go fun y M4 ⟨c1, c2⟩ => ?_
        have d1 : M4[M1.length]? = some (.lst acc) := c2.at (b2.at a4 id) id
        refine ⟨acc, d1, ?_, by omega, ?_, ((a2.tr b2).tr c2).trans (Kp.set (W := fun n => n = M1.length) fun _ => rfl) ?_, at_set d1⟩
        · rw [a1, List.length_map]
          have := List.length_filter_le p (List.range i)
          rw [List.length_range] at this
          exact size_lt (by omega)
        · rw [er, List.filter_append, List.filter_cons, if_pos hb, a1, c1]; simp
        · intro n hn w; omega
    · rintro acc M' ⟨a0, a1, a2, a4⟩
      refine ⟨h2 M' a2, ?_⟩
      subst a1
      exact h3 _ M' rfl (lt_of a4) a2 a4
  obtain ⟨M', e, k⟩ := key
  show Wp (match compF _ _ _ _ _ _ _ _ _ with | some M2 => some (Dv.loc M1.length, M2) | none => none) q
  rw [e]
  exact wp_ok k
end Zl

/-! text Y5 -/
namespace Zl
open PySem L2 PySem.Spec PyProof.Rows
/-! ## data that is small: depth at most k, weight at most n -/
structure Sm (k n : Nat) (p : PyData) : Prop where
  lay : p.canLay0 = true
  dep : p.depth ≤ k
  sho : p.showable = true
  dic : p.hasDict = false
  sht : p.leavesShort 12 = true
  blk : p.bulk ≤ n
structure SmA (k n : Nat) (ps : List PyData) : Prop where
  lay : PyData.canLayAll0 ps = true
  dep : PyData.depthAll ps ≤ k
  sho : PyData.showableAll ps = true
  dic : PyData.hasDictAll ps = false
  sht : PyData.leavesShortAll 12 ps = true
  blk : PyData.bulkAll ps ≤ n
section
variable {k n m : Nat} {p : PyData} {ps : List PyData}
theorem smA_nil : SmA k n [] := ⟨rfl, Nat.zero_le _, rfl, rfl, rfl, Nat.zero_le _⟩
theorem smA_cons (h : Sm k n p) (hs : SmA k m ps) : SmA k (n + 1 + m) (p :: ps) :=
  ⟨by unfold PyData.canLayAll0; rw [h.lay, hs.lay]; rfl, by unfold PyData.depthAll; exact Nat.max_le.mpr ⟨h.dep, hs.dep⟩, by unfold PyData.showableAll; rw [h.sho, hs.sho]; rfl,
    by unfold PyData.hasDictAll; rw [h.dic, hs.dic]; rfl, by unfold PyData.leavesShortAll; rw [h.sht, hs.sht]; rfl, by unfold PyData.bulkAll; have := h.blk; have := hs.blk; omega⟩
theorem SmA.mono {k' n' : Nat} (h : SmA k n ps) (hk : k ≤ k') (hn : n ≤ n') : SmA k' n' ps := ⟨h.lay, Nat.le_trans h.dep hk, h.sho, h.dic, h.sht, Nat.le_trans h.blk hn⟩
theorem Sm.mono {k' n' : Nat} (h : Sm k n p) (hk : k ≤ k') (hn : n ≤ n') : Sm k' n' p := ⟨h.lay, Nat.le_trans h.dep hk, h.sho, h.dic, h.sht, Nat.le_trans h.blk hn⟩
theorem smA_all : ∀ {ps : List PyData}, (∀ p ∈ ps, Sm k n p) → SmA k ((n + 1) * ps.length) ps
  | [], _ => smA_nil
  | p :: ps, h => (smA_cons (h p (by simp)) (smA_all fun q hq => h q (by simp [hq]))).mono (Nat.le_refl _) (by rw [List.length_cons, Nat.mul_succ]; omega)
theorem sm_list (h : SmA k n ps) : Sm (k + 1) n (.list ps) :=
  ⟨by unfold PyData.canLay0; exact h.lay, by unfold PyData.depth; have := h.dep; omega, by unfold PyData.showable; exact h.sho, by unfold PyData.hasDict; exact h.dic, by unfold PyData.leavesShort; exact h.sht, by unfold PyData.bulk; exact h.blk⟩
theorem sm_tuple (h : SmA k n ps) : Sm (k + 1) n (.tuple ps) :=
  ⟨by unfold PyData.canLay0; exact h.lay, by unfold PyData.depth; have := h.dep; omega, by unfold PyData.showable; exact h.sho, by unfold PyData.hasDict; exact h.dic, by unfold PyData.leavesShort; exact h.sht, by unfold PyData.bulk; exact h.blk⟩
theorem sm_bool {b : Bool} : Sm k n (.bool b) := ⟨rfl, Nat.zero_le _, rfl, rfl, rfl, Nat.zero_le _⟩
theorem sm_none : Sm k n .none := ⟨rfl, Nat.zero_le _, rfl, rfl, rfl, Nat.zero_le _⟩
theorem nat_short : ∀ j : Nat, j ≤ 3000 → (PyData.shown (.int (j : Nat))).length ≤ 12 := by decide +kernel
theorem sm_nat {j : Nat} (h : j ≤ 3000) : Sm k n (.int (j : Nat)) :=
  ⟨rfl, Nat.zero_le _, by
    unfold PyData.showable
    rw [decide_eq_true_eq]
    have : ((j : Nat) : Int).natAbs = j := Int.natAbs_natCast j
    rw [this]
    by_cases e : j = 0
    · rw [e]; decide
    · have := (Nat.log2_lt e (k := 1920)).mpr (Nat.lt_of_le_of_lt h (Nat.lt_of_lt_of_le (by decide : 3000 < 2 ^ 12) (Nat.pow_le_pow_right (by decide) (by decide))))
      exact this, rfl, by unfold PyData.leavesShort; exact decide_eq_true (nat_short j h), Nat.zero_le _⟩
theorem Sm.shaped (h : Sm k n p) (hk : k ≤ 60) : SeqAt.shaped p = true := by
  unfold SeqAt.shaped
  rw [h.lay, Bool.true_and, decide_eq_true_eq]
  have := h.dep; omega
/-- repr, == of small data -/
theorem wq_repr {x : Dv} {M : Mem} {q : QE} (hx : (match x with | .tup _ => true | .rol _ => true | .loc _ => true | _ => false) = true) (hr : rd M deep x = some p) (h : Sm k n p) (hk : k ≤ 60) (hn : n ≤ 1000000) (c : q (.str p.shown) M) : Wp (reprE [x] M) q := by
  have ok : p.showable = true ∧ p.hasDict = false ∧ p.depth ≤ 60 ∧ p.shown.length ≤ sizeLine := by
    refine ⟨h.sho, h.dic, Nat.le_trans h.dep hk, ?_⟩
    have e := PyData.shown_le_bulk 12 (by decide) p h.sht
    have := h.blk
    exact Nat.le_trans e (by show _ ≤ 2 ^ 24; omega)
  refine wp_ev ?_ c
  cases x with
  | tup xs => show reprD [.tup xs] M = _; unfold reprD; simp only [hr, if_pos ok]
  | rol xs => show reprD [.rol xs] M = _; unfold reprD; simp only [hr, if_pos ok]
  | loc m => show reprD [.loc m] M = _; unfold reprD; simp only [hr, if_pos ok]
  | _ => cases hx
theorem wq_reprB {b : Bool} {M : Mem} {q : QE} (c : q (.str (if b then "True" else "False")) M) : Wp (reprE [.bl b] M) q := wp_ok c
theorem wq_reprN {M : Mem} {q : QE} (c : q (.str "None") M) : Wp (reprE [.non] M) q := wp_ok c
theorem wq_eqS {b : Bool} {x y : Dv} {M : Mem} {Q : QE} {p q : PyData} {k' n' : Nat} (hx : rd M deep x = some p) (hy : rd M deep y = some q) (sp : Sm k n p) (sq : Sm k' n' q) (hk : k ≤ 60) (hk' : k' ≤ 60) (c : Q (.bl (xor b (PyData.eqv p q))) M) : Wp (eqD b x y M) Q :=
  wq_eqD hx hy (sp.shaped hk) (sq.shaped hk') c
end
/-! what is read of lists of bools, of numbers -/
theorem smA_bools {k : Nat} (bs : List Bool) : SmA k bs.length (bs.map .bool) :=
  (smA_all (k := k) (n := 0) fun p hp => by obtain ⟨b, _, rfl⟩ := List.mem_map.mp hp; exact sm_bool).mono (Nat.le_refl _) (by simp)
def natsP (ns : List Nat) : List PyData := ns.map fun n => .int (n : Nat)
theorem smA_nats {k : Nat} {ns : List Nat} (h : ∀ n ∈ ns, n ≤ 3000) : SmA k ns.length (natsP ns) :=
  (smA_all (k := k) (n := 0) fun p hp => by obtain ⟨j, hj, rfl⟩ := List.mem_map.mp hp; exact sm_nat (h j hj)).mono (Nat.le_refl _) (by simp [natsP])
theorem rd_nats {M : Mem} {n : Nat} : ∀ ns : List Nat, rdL (rd M n) (ns.map fun j => Dv.int (j : Nat)) = some (natsP ns)
  | [] => rfl
  | j :: ns => rdL_cons (by cases n <;> rfl) (rd_nats ns)
theorem eqvA_bools : ∀ as bs : List Bool, PyData.eqvAll (as.map .bool) (bs.map .bool) = (as == bs)
  | [], [] => rfl
  | [], _ :: _ => rfl
  | _ :: _, [] => rfl
  | a :: as, b :: bs => by
    rw [List.map_cons, List.map_cons]
    unfold PyData.eqvAll
    rw [eqvA_bools as bs]
    cases a <;> cases b <;> rfl
theorem eqvA_nats : ∀ as bs : List Nat, PyData.eqvAll (natsP as) (natsP bs) = (as == bs)
  | [], [] => rfl
  | [], _ :: _ => rfl
  | _ :: _, [] => rfl
  | a :: as, b :: bs => by
    unfold natsP
    rw [List.map_cons, List.map_cons]
    unfold PyData.eqvAll
    have := eqvA_nats as bs
    unfold natsP at this
    rw [this]
    have e : PyData.eqv (.int (a : Nat)) (.int (b : Nat)) = (a == b) := by
      show ((a : Int) == (b : Int)) = _
      rw [Bool.eq_iff_iff, beq_iff_eq, beq_iff_eq]
      exact Int.ofNat_inj
    rw [e]; rfl
end Zl

/-! text Y6 -/
namespace Zl
open PySem L2 PySem.Spec PyProof.Rows
theorem wr_lstT {xs : List Dv} {M : Mem} {q : QE} (c : kNew (.lst xs) (fun k M2 => q (.loc k) M2) M) : Wp (lstE [.tup xs] M) q := wq_lstT c
theorem wr_lstL {n : Nat} {xs : List Dv} {M : Mem} {q : QE} (hm : M[n]? = some (.lst xs)) (c : kNew (.lst xs) (fun k M2 => q (.loc k) M2) M) : Wp (lstE [.loc n] M) q := wq_lstL hm c
theorem wr_lstS {x : Str} {M : Mem} {q : QE} (h : x.cps.size ≤ sizeLine) (c : kNew (.lst (signsD x)) (fun k M2 => q (.loc k) M2) M) : Wp (lstE [.str x] M) q :=
  wp_ev (a := .loc M.length) (M' := M ++ [.lst (signsD x)]) (by unfold lstE; simp only; rw [if_pos h]) (c _ _ rfl at_new (.app _) (by simp))
/-! a text walked -/
def stpS (x : Str) : Stp := fun i _ => some (x.cps[i]?.map fun c => .str ⟨#[c]⟩)
theorem k_srcS {x : Str} {M : Mem} {qi : Src → Mem → Prop} (hq : qi ⟨x.cps.size, stpS x⟩ M) : kSrc qi (.str x) M := ⟨_, rfl, hq⟩
theorem stpS_at {x : Str} {i : Nat} {M : Mem} : stpS x i M = some (signsD x)[i]? := by
  unfold stpS signsD
  rw [List.getElem?_map, Array.getElem?_toList]
theorem signs_len {x : Str} : (signsD x).length = x.cps.size := by simp [signsD]
theorem k_forS {env : En} {M : Mem} {g : FG} {f : FS} {Q : QS} {x : Str} {I : Nat → En → Mem → Prop} (h0 : I 0 env M) (h1 : ∀ i d env M, (signsD x)[i]? = some d → I i env M → Wp (g d env M) fun e1 M1 => Wp (f e1 M1) (kLoop (I (i + 1)) Q)) (h2 : ∀ env M, I x.cps.size env M → Q (.nx env) M) : kFor I g f env Q ⟨x.cps.size, stpS x⟩ M :=
  ⟨h0, fun i env M hi hh => by
    have hi' : i < (signsD x).length := by rw [signs_len]; exact hi
    exact ⟨_, by show stpS x i M = _; rw [stpS_at, List.getElem?_eq_getElem hi'], h1 i _ env M (List.getElem?_eq_getElem hi') hh⟩, fun env M hh => ⟨by show stpS x x.cps.size M = _; rw [stpS_at, List.getElem?_eq_none (by rw [signs_len]; exact Nat.le_refl _)], h2 env M hh⟩⟩
theorem k_mapS {fe : FE} {env : En} {v : Nat} {vs : List Nat} {φ : Dv → Dv} {q : QE} {x : Str} {M : Mem} (hl : x.cps.size ≤ sizeLine) (he : ∀ y ∈ signsD x, ∀ M', Kp NoW M M' → Wp (fe ((wipeE env vs).set v (some y)) M') fun y' M3 => y' = φ y ∧ Kp NoW M' M3)
    (hq : ∀ n M', n = M.length → M.length < M'.length → Kp NoW M M' → M'[n]? = some (.lst ((signsD x).map φ)) → q (.loc n) M') : kMap fe env v vs φ q ⟨x.cps.size, stpS x⟩ M := ⟨signsD x, signs_len.symm, by rw [signs_len]; exact hl, fun _ M' _ _ => stpS_at (M := M'), he, hq⟩
/-! name += e -/
theorem wp_aug {env : En} {M : Mem} {i : Nat} {h : Int → Int → Int} {f : FE} {Q : QS} {a : Int} (he : env[i]? = some (some (.int a))) (k : Wp (f env M) (kInt fun b M1 => Q (.nx (env.set i (some (.int (h a b))))) M1)) : Wp (fAug i h f env M) Q := by
  unfold fAug
  simp only [he]
  refine wp_bnd (k.go fun d M1 ⟨b, e, q⟩ => ?_)
  subst e
  exact wp_ok q
end Zl

/-! text Y7 -/
namespace Zl
open PySem L2 PySem.Spec PyProof.Rows
/-! ## running dicts -/
theorem valD_put {kvs : List (Key × Dv)} {k k' : Key} {v : Dv} : valD (putDk kvs k v) k' = if k = k' then some v else valD kvs k' := by
  unfold putDk
  by_cases h : (kvs.any fun kv => decide (kv.1 = k)) = true
  · rw [if_pos h]
    induction kvs with
    | nil => cases h
    | cons p kvs ih =>
      rw [List.map_cons]
      unfold valD
      rw [List.find?_cons, List.find?_cons]
      by_cases e : p.1 = k
      · rw [if_pos e]
        by_cases e2 : k = k'
        · rw [if_pos e2]
          have : decide ((p.1, v).1 = k') = true := decide_eq_true (e.trans e2)
          rw [this]; rfl
        · rw [if_neg e2]
          have a1 : decide ((p.1, v).1 = k') = false := decide_eq_false (fun z => e2 (e.symm.trans z))
          have a2 : decide (p.1 = k') = false := decide_eq_false (fun z => e2 (e.symm.trans z))
          rw [a1]
          show Option.map _ (List.find? _ (List.map _ kvs)) = Option.map _ (List.find? _ kvs)
          by_cases h2 : (kvs.any fun kv => decide (kv.1 = k)) = true
          · have := ih h2; rw [if_neg e2] at this; exact this
          · have hm : (kvs.map fun kv => if kv.1 = k then (kv.1, v) else kv) = kvs := by
              refine (List.map_congr_left fun x hx => ?_).trans (List.map_id kvs)
              rw [if_neg]; rfl
              intro z
              exact h2 (List.any_eq_true.mpr ⟨x, hx, decide_eq_true z⟩)
            rw [hm]
      · rw [if_neg e]
        have h2 : (kvs.any fun kv => decide (kv.1 = k)) = true := by
          rw [List.any_cons, decide_eq_false e, Bool.false_or] at h; exact h
        have i := ih h2
        unfold valD at i
        by_cases e3 : p.1 = k'
        · rw [decide_eq_true e3]
          rw [if_neg (fun z => e (e3.trans z.symm))]
        · rw [decide_eq_false e3]
          exact i
  · rw [if_neg h]
    unfold valD
    rw [List.find?_append]
    by_cases e2 : k = k'
    · subst e2
      rw [if_pos rfl]
      have : kvs.find? (fun kv => decide (kv.1 = k)) = none := by
        rw [List.find?_eq_none]
        intro x hx z
        exact h (List.any_eq_true.mpr ⟨x, hx, z⟩)
      rw [this]; simp
    · rw [if_neg e2]
      have : [(k, v)].find? (fun kv => decide (kv.1 = k')) = none := by simp [e2]
      rw [this, Option.or_none]
theorem putDk_len {kvs : List (Key × Dv)} {k : Key} {v : Dv} : (putDk kvs k v).length ≤ kvs.length + 1 := by
  unfold putDk
  split <;> simp
section
variable {M : Mem} {n : Nat} {kvs : List (Key × Dv)} {k : Key} {env : En}
theorem wq_dnew {q : QE} (h : kNew (.dct []) (fun n M2 => q (.loc n) M2) M) : Wp (fDNew env M) q :=
  wp_ev (a := .loc M.length) (M' := M ++ [.dct []]) rfl (h _ _ rfl at_new (.app _) (by simp))
theorem k_setDk {i d : Dv} {q : Mem → Prop} (hm : M[n]? = some (.dct kvs)) (hk : keyD i = some k) (hl : kvs.length < sizeLine) (h : kWr n (.dct (putDk kvs k d)) q M) : kSet (.loc n) i d q M :=
  ⟨_, by unfold setE; simp only [hm, hk, if_pos hl], h _ (at_set hm) (.set fun _ => rfl) (by simp)⟩
theorem wq_dget {fo fe : FE} {q : QE} (h : Wp (fo env M) fun d M1 => ∃ m kv1, d = .loc m ∧ M1[m]? = some (.dct kv1) ∧ Wp (fe env M1) fun y M2 => ∃ kv k, M2[m]? = some (.dct kv) ∧ keyD y = some k ∧ q ((valD kv k).getD .non) M2) : Wp (fDGet fo fe env M) q := by
  unfold fDGet
  refine wp_bnd (h.go ?_)
  rintro d M1 ⟨m, kv1, rfl, h1, w⟩
  simp only [h1]
  refine wp_bnd (w.go ?_)
  rintro y M2 ⟨kv, k, h2, h3, h4⟩
  simp only [h2, h3]
  exact wp_ok h4
theorem wq_rng3 {fa fb fc : FE} {qi : Src → Mem → Prop} (h : Wp (fa env M) fun d M1 => Wp (fb env M1) fun d2 M2 => Wp (fc env M2) fun d3 M3 => ∃ i j : Int, d = .int i ∧ d2 = .int j ∧ d3 = .int (-1) ∧ -(2 ^ 62) ≤ i ∧ i < 2 ^ 62 ∧ -(2 ^ 62) ≤ j ∧ j < 2 ^ 62 ∧ qi (srcC i (-1) (i - j).toNat) M3) : Wp (fRng3 fa fb fc env M) qi := by
  unfold fRng3
  refine wp_bnd (h.go fun d M1 w => wp_bnd (w.go fun d2 M2 w => wp_bnd (w.go ?_)))
  rintro d3 M3 ⟨i, j, rfl, rfl, rfl, h1, h2, h3, h4, h5⟩
  simp only [h1, h2, h3, h4, and_self, if_true]
  exact wp_ok h5
/-- a for that counts n - 1, .., 0 -/
theorem k_forD {g : FG} {f : FS} {Q : QS} {I : Nat → En → Mem → Prop} (h0 : I 0 env M) (h1 : ∀ i t env M, t + i + 1 = n → I i env M → Wp (g (.int (t : Nat)) env M) fun e1 M1 => Wp (f e1 M1) (kLoop (I (i + 1)) Q)) (h2 : ∀ env M, I n env M → Q (.nx env) M) : kFor I g f env Q (srcC ((n : Int) - 1) (-1) ((n : Int) - 1 - (-1)).toNat) M := by
  have e : ((n : Int) - 1 - (-1)).toNat = n := by omega
  rw [e]
  refine ⟨h0, fun i env M hi hh => ?_, fun env M hh => ⟨?_, h2 env M hh⟩⟩
  · have hi' : i < n := hi
    refine ⟨.int ((n - 1 - i : Nat) : Int), ?_, h1 i (n - 1 - i) env M (by omega) hh⟩
    show (if i < n then some (some (Dv.int ((n : Int) - 1 + i * (-1)))) else some none) = _
    rw [if_pos hi']
    congr 3
    omega
  · show (if n < n then _ else some none) = _
    rw [if_neg (Nat.lt_irrefl n)]
end
end Zl

/-! text Y8 -/
namespace Zl
open PySem L2 PySem.Spec PyProof.Rows
section
variable {env : En} {M : Mem} {Q : QS} {q : QE} {fo fv fa : FE} {c np : Nat} {fld : Str} {F : FF} {h : Int → Int → Int}
def kFA (c : Nat) (fld : Str) (h : Int → Int → Int) (fv : FE) (env : En) (q : Mem → Prop) : QE := fun d M1 => ∃ n fs i, d = .loc n ∧ M1[n]? = some (.ins c fs) ∧ fs.lookup fld = some (.int i) ∧ Wp (fv env M1) fun y M2 => ∃ j fs2, y = .int j ∧ M2[n]? = some (.ins c fs2) ∧ fs2.length < 1000 ∧ kWr n (.ins c (putD fld (.int (h i j)) fs2)) q M2
theorem wq_fldaug (k : Wp (fo env M) (kFA c fld h fv env fun M3 => Q (.nx env) M3)) : Wp (fFldAug c fld h fo fv env M) Q :=
  wp_bnd (k.go fun d M1 ⟨n, fs, i, e, h1, h2, h3⟩ => by
    subst e
    show Wp (match M1[n]? with | some (.ins c' fs) => if c' = c then match fs.lookup fld with | some (.int i) => bnd (fv env M1) _ | _ => none else none | _ => none) _
    simp only [h1, if_true, h2]
    refine wp_bnd (h3.go fun y M2 ⟨j, fs2, e, g1, g2, g3⟩ => ?_)
    subst e
    show Wp (match M2[n]? with | some (.ins c2 fs2) => if c2 = c ∧ fs2.length < 1000 then some (Fl.nx env, M2.set n (.ins c (putD fld (.int (h i j)) fs2))) else none | _ => none) _
    simp only [g1, g2, and_self, if_true]
    exact wp_ok (g3 _ (at_set g1) (.set fun _ => rfl) (by simp)))
theorem wq_prop (k : Wp (fo env M) fun d M1 => (isIns c fld d M1 = true ∧ 1 = np) ∧ Wp (F [d] M1) q) : Wp (fProp c fld np F fo env M) q :=
  wp_bnd (k.go fun d M1 k => by
    show Wp (if _ then _ else _) _
    rw [if_pos k.1]; exact k.2)
theorem wq_setT {xs : List Str} {M : Mem} {q : QE} (hl : xs.length < 4000) (k : kNew (.sk (dedS xs)) (fun n M2 => q (.loc n) M2) M) : Wp (setOfE [.tup (xs.map .str)] M) q := by
  refine wp_ev (a := .loc M.length) (M' := M ++ [.sk (dedS xs)]) ?_ (k _ _ rfl at_new (.app _) (by simp))
  unfold setOfE
  simp only [strsOf_map, hl, if_true]
theorem wq_lenSk {n : Nat} {xs : List Str} {M : Mem} {q : QE} (hm : M[n]? = some (.sk xs)) (k : q (.int (xs.length : Nat)) M) : Wp (lenE [.loc n] M) q := by
  refine wp_ev ?_ k
  unfold lenE
  simp only [hm]
theorem wq_sortR (k : Wp (fa env M) fun d M1 => ∃ n is, d = .loc n ∧ M1[n]? = some (.lst (List.map .int is)) ∧ downB is = true ∧ kNew (.lst (List.map .int is)) (fun m M2 => q (.loc m) M2) M1) : Wp (fSortR fa env M) q :=
  wp_bnd (k.go fun d M1 ⟨n, is, e, h1, h2, h3⟩ => by
    subst e
    have hi : ∀ is : List Int, intsOf (is.map .int) = some is := fun is => by
      induction is with
      | nil => rfl
      | cons i is ih =>
        show (match intsOf (is.map .int) with | some ys => some (i :: ys) | none => none) = _
        rw [ih]
    refine ⟨.loc M1.length, M1 ++ [.lst (List.map .int is)], ?_, h3 _ _ rfl at_new (.app _) (by simp)⟩
    simp only [h1, hi, h2, if_true])
end
end Zl

/-! text B77 -/
namespace L77
open PySem L2 PySem.Spec PyProof.Rows Zl
def top (i : Nat) : Stmt := PySem.Challenge.pw_missbounds_k77_whole_no_device_with_fewe.main.body.getD i (.Pass ⟨0, 0, 0, 0⟩)
def c_LETTERS : Dv := .str "abcdefghijklmnopqrstuvwxyz"
def c_LEVELS : Dv := .tup [.str "plain", .str "inclusive", .str "victim"]
def c_LONGEST : Dv := .int 6
def c_MOST_KEPT : Dv := .int 200
def c_MOST_LINES : Dv := .int 4
def c_MOST_REQUESTS : Dv := .int 2000
def c_MOST_STATES : Dv := .int 64
/-! Cache.note_answer -/
abbrev s_Cache_note_answer : Stmt := inClass (top 37) 10
theorem sc_Cache_note_answer : FnScope ["self", "answer"] ["self", "answer"] (defScope s_Cache_note_answer) := ⟨rfl, rfl, rfl, by decide +kernel, rfl, by decide +kernel, by decide +kernel⟩
def b_Cache_note_answer : FS := (fSeq (fIfS (fTr (fV 1)) (fFldAug 1 "hit_number" (fun i j => i + j) (fV 0) (fK (.int 1))) (fFldAug 1 "miss_number" (fun i j => i + j) (fV 0) (fK (.int 1)))) (fRet (fV 1)))
def m_Cache_note_answer : FF := callF 2 b_Cache_note_answer
/-! Box.told -/
abbrev s_Box_told : Stmt := inClass (top 19) 2
theorem sc_Box_told : FnScope ["self", "level"] ["self", "level"] (defScope s_Box_told) := ⟨rfl, rfl, rfl, by decide +kernel, rfl, by decide +kernel, by decide +kernel⟩
def b_Box_told : FS := (fRet (fO ixE (fO ixE (fO ixE (fFld 0 "policies" (fV 0)) (fV 1)) (fK (.int 1))) (fO ixE (fFld 0 "stages" (fV 0)) (fV 1))))
def m_Box_told : FF := callF 2 b_Box_told
/-! Box.touch -/
abbrev s_Box_touch : Stmt := inClass (top 19) 3
theorem sc_Box_touch : FnScope ["self", "level", "line"] ["self", "level", "line"] (defScope s_Box_touch) := ⟨rfl, rfl, rfl, by decide +kernel, rfl, by decide +kernel, by decide +kernel⟩
def b_Box_touch : FS := (fAsg (fO ixE (fO ixE (fMeth 0 "told" 2 m_Box_told (fV 0) (fCons (fV 1) fNil)) (fK (.int 2))) (fV 2)) (gSE (fFld 0 "stages" (fV 0)) (fV 1)))
def m_Box_touch : FF := callF 3 b_Box_touch
/-! Box.fill -/
abbrev s_Box_fill : Stmt := inClass (top 19) 4
theorem sc_Box_fill : FnScope ["self", "level", "name", "victim", "state", "hits", "gone"] ["self", "level", "name"] (defScope s_Box_fill) := ⟨rfl, rfl, rfl, by decide +kernel, rfl, by decide +kernel, by decide +kernel⟩
def b_Box_fill : FS := (fSeq (fAsg (fMeth 0 "told" 2 m_Box_told (fV 0) (fCons (fV 1) fNil)) (gOr (gT 3 (gsCons (gN 3) (gsCons (gN 4) (gsCons (gN 5) gsNil)))) (gL 3 (gsCons (gN 3) (gsCons (gN 4) (gsCons (gN 5) gsNil)))))) (fSeq (fSet 6 (fO ixE (fO ixE (fFld 0 "rows" (fV 0)) (fV 1)) (fV 3))) (fSeq (fAsg (fV 2) (gSE (fO ixE (fFld 0 "rows" (fV 0)) (fV 1)) (fV 3))) (fSeq (fAsg (fV 4) (gSE (fFld 0 "stages" (fV 0)) (fV 1))) (fRet (fV 6))))))
def m_Box_fill : FF := callF 7 b_Box_fill
/-! Box.go_down -/
abbrev s_Box_go_down : Stmt := inClass (top 19) 6
theorem sc_Box_go_down : FnScope ["self", "name", "gone", "upper", "lower", "line", "lost"] ["self", "name", "gone"] (defScope s_Box_go_down) := ⟨rfl, rfl, rfl, by decide +kernel, rfl, by decide +kernel, by decide +kernel⟩
def b_Box_go_down : FS := (fSeq (fAsg (fFld 0 "rows" (fV 0)) (gOr (gT 2 (gsCons (gN 3) (gsCons (gN 4) gsNil))) (gL 2 (gsCons (gN 3) (gsCons (gN 4) gsNil))))) (fIfS (fB (fO (eqD false) (fFld 0 "mode" (fV 0)) (fK (.str "victim")))) (fIfS (fB (fO (inE false) (fV 1) (fV 4))) (fSeq (fSet 5 (fOr (fM "list" indexD (fV 4) (fCons (fV 1) fNil)) (fM "tuple" tindexD (fV 4) (fCons (fV 1) fNil)))) (fSeq (fAsg (fV 2) (gSE (fV 4) (fV 5))) (fDrop (fMeth 0 "touch" 3 m_Box_touch (fV 0) (fCons (fK (.int 1)) (fCons (fV 5) fNil)))))) (fIfS (fB (fO (isE true) (fV 2) (fK .non))) (fDrop (fMeth 0 "fill" 3 m_Box_fill (fV 0) (fCons (fK (.int 1)) (fCons (fV 2) fNil)))) fEnd)) (fIfS (fB (fO (inE false) (fV 1) (fV 4))) (fDrop (fMeth 0 "touch" 3 m_Box_touch (fV 0) (fCons (fK (.int 1)) (fCons (fOr (fM "list" indexD (fV 4) (fCons (fV 1) fNil)) (fM "tuple" tindexD (fV 4) (fCons (fV 1) fNil))) fNil)))) (fSeq (fSet 6 (fMeth 0 "fill" 3 m_Box_fill (fV 0) (fCons (fK (.int 1)) (fCons (fV 1) fNil)))) (fIfS ((fAndT (fB (fO (eqD false) (fFld 0 "mode" (fV 0)) (fK (.str "inclusive")))) (fAndT (fB (fO (isE true) (fV 6) (fK .non))) (fB (fO (inE false) (fV 6) (fV 3)))))) (fAsg (fK .non) (gSE (fV 3) (fOr (fM "list" indexD (fV 3) (fCons (fV 6) fNil)) (fM "tuple" tindexD (fV 3) (fCons (fV 6) fNil))))) fEnd)))))
def m_Box_go_down : FF := callF 7 b_Box_go_down
/-! Box.holds -/
abbrev s_Box_holds : Stmt := inClass (top 19) 1
theorem sc_Box_holds : FnScope ["self", "name", "lines"] ["self", "name"] (defScope s_Box_holds) := ⟨rfl, rfl, rfl, by decide +kernel, rfl, by decide +kernel, by decide +kernel⟩
def b_Box_holds : FS := (fRet (fC anyD (fCons (fComp (fSrc (fFld 0 "rows" (fV 0))) [2] (gN 2) fYes (fO (inE false) (fV 1) (fV 2))) fNil)))
def m_Box_holds : FF := callF 3 b_Box_holds
/-! Box.ask -/
abbrev s_Box_ask : Stmt := inClass (top 19) 5
theorem sc_Box_ask : FnScope ["self", "name", "held", "gone"] ["self", "name"] (defScope s_Box_ask) := ⟨rfl, rfl, rfl, by decide +kernel, rfl, by decide +kernel, by decide +kernel⟩
def b_Box_ask : FS := (fSeq (fSet 2 (fMeth 0 "holds" 2 m_Box_holds (fV 0) (fCons (fV 1) fNil))) (fSeq (fIfS (fB (fO (inE false) (fV 1) (fO ixE (fFld 0 "rows" (fV 0)) (fK (.int 0))))) (fDrop (fMeth 0 "touch" 3 m_Box_touch (fV 0) (fCons (fK (.int 0)) (fCons (fOr (fM "list" indexD (fO ixE (fFld 0 "rows" (fV 0)) (fK (.int 0))) (fCons (fV 1) fNil)) (fM "tuple" tindexD (fO ixE (fFld 0 "rows" (fV 0)) (fK (.int 0))) (fCons (fV 1) fNil))) fNil)))) (fSeq (fSet 3 (fMeth 0 "fill" 3 m_Box_fill (fV 0) (fCons (fK (.int 0)) (fCons (fV 1) fNil)))) (fIfS (fB (fO (eqD false) (fC lenE (fCons (fFld 0 "rows" (fV 0)) fNil)) (fK (.int 2)))) (fDrop (fMeth 0 "go_down" 3 m_Box_go_down (fV 0) (fCons (fV 1) (fCons (fV 3) fNil)))) fEnd))) (fRet (fV 2))))
def m_Box_ask : FF := callF 4 b_Box_ask
/-! is_name -/
abbrev s_is_name : Stmt := top 16
theorem sc_is_name : FnScope ["value", "letter"] ["value"] (defScope s_is_name) := ⟨rfl, rfl, rfl, by decide +kernel, rfl, by decide +kernel, by decide +kernel⟩
def b_is_name : FS := (fSeq (fIfS ((fOrT (fNotT (fTr (fC isiD (fCons (fV 0) (fCons (fK (.ty "str")) fNil))))) (fNotT (fB (fChain leD leD (fK (.int 1)) (fC lenE (fCons (fV 0) fNil)) (fK c_LONGEST)))))) (fRet (fK (.bl false))) fEnd) (fRet (fC allD (fCons (fComp (fSrc (fV 0)) [1] (gN 1) fYes (fO (inE false) (fV 1) (fK c_LETTERS))) fNil))))
def m_is_name : FF := callF 2 b_is_name
/-! check_name -/
abbrev s_check_name : Stmt := top 17
theorem sc_check_name : FnScope ["name"] ["name"] (defScope s_check_name) := ⟨rfl, rfl, rfl, by decide +kernel, rfl, by decide +kernel, by decide +kernel⟩
def b_check_name : FS := (fIfS (fNotT (fTr (fCall 1 m_is_name (fCons (fV 0) fNil)))) (fNo) fEnd)
def m_check_name : FF := callF 1 b_check_name
/-! Cache.request -/
abbrev s_Cache_request : Stmt := inClass (top 37) 11
theorem sc_Cache_request : FnScope ["self", "name"] ["self", "name"] (defScope s_Cache_request) := ⟨rfl, rfl, rfl, by decide +kernel, rfl, by decide +kernel, by decide +kernel⟩
def b_Cache_request : FS := (fSeq (fDrop (fCall 1 m_check_name (fCons (fV 1) fNil))) (fRet (fMeth 1 "note_answer" 2 m_Cache_note_answer (fV 0) (fCons (fMeth 0 "ask" 2 m_Box_ask (fFld 1 "box" (fV 0)) (fCons (fV 1) fNil)) fNil))))
def m_Cache_request : FF := callF 2 b_Cache_request
/-! Cache.misses -/
abbrev s_Cache_misses : Stmt := inClass (top 37) 9
theorem sc_Cache_misses : FnScope ["self"] ["self"] (defScope s_Cache_misses) := ⟨rfl, rfl, rfl, by decide +kernel, rfl, by decide +kernel, by decide +kernel⟩
def b_Cache_misses : FS := (fRet (fFld 1 "miss_number" (fV 0)))
def m_Cache_misses : FF := callF 1 b_Cache_misses
/-! next_requests -/
abbrev s_next_requests : Stmt := top 32
theorem sc_next_requests : FnScope ["names", "found", "later", "time"] ["names"] (defScope s_next_requests) := ⟨rfl, rfl, rfl, by decide +kernel, rfl, by decide +kernel, by decide +kernel⟩
def b_next_requests : FS := (fSeq (fPar [1, 2] (fCons (fO mulD (fLst (fCons (fK .non) fNil)) (fC lenE (fCons (fV 0) fNil))) (fCons (fDNew) fNil))) (fSeq (fFor (fRng3 (fO subD (fC lenE (fCons (fV 0) fNil)) (fK (.int 1))) (fU negD (fK (.int 1))) (fU negD (fK (.int 1)))) (gN 3) (fSeq (fAsg (fDGet (fV 2) (fO ixE (fV 0) (fV 3))) (gSE (fV 1) (fV 3))) (fAsg (fV 3) (gSE (fV 2) (fO ixE (fV 0) (fV 3)))))) (fRet (fV 1))))
def m_next_requests : FF := callF 4 b_next_requests
/-! is_integer -/
abbrev s_is_integer : Stmt := top 22
theorem sc_is_integer : FnScope ["value"] ["value"] (defScope s_is_integer) := ⟨rfl, rfl, rfl, by decide +kernel, rfl, by decide +kernel, by decide +kernel⟩
def b_is_integer : FS := (fRet ((fAndV (fC isiD (fCons (fV 0) (fCons (fK (.ty "int")) fNil))) (fNotV (fC isiD (fCons (fV 0) (fCons (fK (.ty "bool")) fNil)))))))
def m_is_integer : FF := callF 1 b_is_integer
/-! is_between -/
abbrev s_is_between : Stmt := top 23
theorem sc_is_between : FnScope ["value", "least", "greatest"] ["value", "least", "greatest"] (defScope s_is_between) := ⟨rfl, rfl, rfl, by decide +kernel, rfl, by decide +kernel, by decide +kernel⟩
def b_is_between : FS := (fRet ((fAndV (fCall 1 m_is_integer (fCons (fV 0) fNil)) (fChain leD leD (fV 1) (fV 0) (fV 2)))))
def m_is_between : FF := callF 3 b_is_between
/-! check_lines -/
abbrev s_check_lines : Stmt := top 30
theorem sc_check_lines : FnScope ["lines"] ["lines"] (defScope s_check_lines) := ⟨rfl, rfl, rfl, by decide +kernel, rfl, by decide +kernel, by decide +kernel⟩
def b_check_lines : FS := (fIfS (fNotT (fTr (fCall 3 m_is_between (fCons (fV 0) (fCons (fK (.int 1)) (fCons (fK c_MOST_LINES) fNil)))))) (fNo) fEnd)
def m_check_lines : FF := callF 1 b_check_lines
/-! check_history -/
abbrev s_check_history : Stmt := top 18
theorem sc_check_history : FnScope ["names", "index", "name"] ["names"] (defScope s_check_history) := ⟨rfl, rfl, rfl, by decide +kernel, rfl, by decide +kernel, by decide +kernel⟩
def b_check_history : FS := (fSeq (fIfS ((fOrT (fNotT (fTr (fC isiD (fCons (fV 0) (fCons (fK (.ty "tuple")) fNil))))) (fB (fO gtD (fC lenE (fCons (fV 0) fNil)) (fK c_MOST_REQUESTS))))) (fNo) fEnd) (fFor (fEnum (fV 0)) (gOr (gT 2 (gsCons (gN 1) (gsCons (gN 2) gsNil))) (gL 2 (gsCons (gN 1) (gsCons (gN 2) gsNil)))) (fIfS (fNotT (fTr (fCall 1 m_is_name (fCons (fV 2) fNil)))) (fNo) fEnd)))
def m_check_history : FF := callF 3 b_check_history
/-! check_asked -/
abbrev s_check_asked : Stmt := top 31
theorem sc_check_asked : FnScope ["names", "lines"] ["names", "lines"] (defScope s_check_asked) := ⟨rfl, rfl, rfl, by decide +kernel, rfl, by decide +kernel, by decide +kernel⟩
def b_check_asked : FS := (fSeq (fDrop (fCall 1 m_check_history (fCons (fV 0) fNil))) (fSeq (fDrop (fCall 1 m_check_lines (fCons (fV 1) fNil))) (fIfS (fB (fO gtD (fC lenE (fCons (fV 0) fNil)) (fK c_MOST_KEPT))) (fNo) fEnd)))
def m_check_asked : FF := callF 2 b_check_asked
/-! best_keeping -/
abbrev s_best_keeping : Stmt := top 34
theorem sc_best_keeping : FnScope ["names", "lines", "nexts", "active", "found", "time", "goal", "last", "gone", "start"] ["names", "lines"] (defScope s_best_keeping) := ⟨rfl, rfl, rfl, by decide +kernel, rfl, by decide +kernel, by decide +kernel⟩
def b_best_keeping : FS := (fSeq (fDrop (fCall 2 m_check_asked (fCons (fV 0) (fCons (fV 1) fNil)))) (fSeq (fAsg (fTup (fCons (fCall 1 m_next_requests (fCons (fV 0) fNil)) (fCons (fLst fNil) fNil))) (gOr (gT 2 (gsCons (gN 2) (gsCons (gN 3) gsNil))) (gL 2 (gsCons (gN 2) (gsCons (gN 3) gsNil))))) (fSeq (fSet 4 (fComp (fSrc (fV 2)) [6] (gN 6) fYes (fO (isE true) (fV 6) (fK .non)))) (fSeq (fFor (fEnum (fV 2)) (gOr (gT 2 (gsCons (gN 5) (gsCons (gN 6) gsNil))) (gL 2 (gsCons (gN 5) (gsCons (gN 6) gsNil)))) (fSeq (fSet 3 (fComp (fSrc (fV 3)) [9] (gN 9) (fB (fO gtD (fO ixE (fV 2) (fV 9)) (fV 5))) (fV 9))) (fSeq (fIfS (fB (fO geD (fC lenE (fCons (fV 3) fNil)) (fV 1))) (fSeq (fSet 7 (fC maxD (fCons (fComp (fSrc (fV 3)) [9] (gN 9) fYes (fO ixE (fV 2) (fV 9))) fNil))) (fSeq (fSet 8 (fOr (fM "list" indexD (fV 2) (fCons (fV 7) fNil)) (fM "tuple" tindexD (fV 2) (fCons (fV 7) fNil)))) (fSeq (fAsg (fK (.bl false)) (gSE (fV 4) (fV 8))) (fDrop ((fM "list" removeD (fV 3) (fCons (fV 8) fNil))))))) fEnd) (fIfS (fB (fO (isE true) (fV 6) (fK .non))) (fDrop ((fM "list" appendD (fV 3) (fCons (fV 5) fNil)))) fEnd)))) (fRet (fC tupD (fCons (fV 4) fNil)))))))
def m_best_keeping : FF := callF 10 b_best_keeping
/-! least_misses -/
abbrev s_least_misses : Stmt := top 35
theorem sc_least_misses : FnScope ["names", "lines", "keeping", "kept"] ["names", "lines"] (defScope s_least_misses) := ⟨rfl, rfl, rfl, by decide +kernel, rfl, by decide +kernel, by decide +kernel⟩
def b_least_misses : FS := (fSeq (fSet 2 (fCall 2 m_best_keeping (fCons (fV 0) (fCons (fV 1) fNil)))) (fRet (fO subD (fC lenE (fCons (fV 0) fNil)) (fC sumD (fCons (fComp (fSrc (fV 2)) [3] (gN 3) fYes (fC intD (fCons (fV 3) fNil))) fNil)))))
def m_least_misses : FF := callF 4 b_least_misses
/-! Box.__init__ -/
abbrev s_Box_init : Stmt := inClass (top 19) 0
theorem sc_Box_init : FnScope ["self", "device", "policy"] ["self", "device"] (defScope s_Box_init) := ⟨rfl, rfl, rfl, by decide +kernel, rfl, by decide +kernel, by decide +kernel⟩
def b_Box_init : FS := (fSeq (fPut 0 "mode" (fV 0) (fO ixE (fV 1) (fK (.int 0)))) (fSeq (fPut 0 "policies" (fV 0) (fSl (fV 1) (fP (fK (.int 1))) fNoP)) (fSeq (fPut 0 "stages" (fV 0) (fO mulD (fLst (fCons (fK (.int 0)) fNil)) (fC lenE (fCons (fFld 0 "policies" (fV 0)) fNil)))) (fPut 0 "rows" (fV 0) (fComp (fSrc (fFld 0 "policies" (fV 0))) [2] (gN 2) fYes (fO mulD (fLst (fCons (fK .non) fNil)) (fO ixE (fV 2) (fK (.int 0)))))))))
def m_Box_init : FF := callF 3 b_Box_init
/-! is_row -/
abbrev s_is_row : Stmt := top 24
theorem sc_is_row : FnScope ["value", "lines", "states", "state"] ["value", "lines", "states"] (defScope s_is_row) := ⟨rfl, rfl, rfl, by decide +kernel, rfl, by decide +kernel, by decide +kernel⟩
def b_is_row : FS := (fSeq (fIfS ((fOrT (fNotT (fTr (fC isiD (fCons (fV 0) (fCons (fK (.ty "tuple")) fNil))))) (fOrT (fB (fO (eqD true) (fC lenE (fCons (fV 0) fNil)) (fK (.int 3)))) (fNotT (fTr (fCall 3 m_is_between (fCons (fO ixE (fV 0) (fK (.int 0))) (fCons (fK (.int 0)) (fCons (fO subD (fV 1) (fK (.int 1))) fNil))))))))) (fRet (fK (.bl false))) fEnd) (fSeq (fIfS ((fOrT (fNotT (fTr (fCall 3 m_is_between (fCons (fO ixE (fV 0) (fK (.int 1))) (fCons (fK (.int 0)) (fCons (fO subD (fV 2) (fK (.int 1))) fNil)))))) (fOrT (fNotT (fTr (fC isiD (fCons (fO ixE (fV 0) (fK (.int 2))) (fCons (fK (.ty "tuple")) fNil))))) (fB (fO (eqD true) (fC lenE (fCons (fO ixE (fV 0) (fK (.int 2))) fNil)) (fV 1)))))) (fRet (fK (.bl false))) fEnd) (fRet (fC allD (fCons (fComp (fSrc (fO ixE (fV 0) (fK (.int 2)))) [3] (gN 3) fYes (fCall 3 m_is_between (fCons (fV 3) (fCons (fK (.int 0)) (fCons (fO subD (fV 2) (fK (.int 1))) fNil))))) fNil)))))
def m_is_row : FF := callF 4 b_is_row
/-! is_policy -/
abbrev s_is_policy : Stmt := top 25
theorem sc_is_policy : FnScope ["value", "lines", "rows", "row"] ["value"] (defScope s_is_policy) := ⟨rfl, rfl, rfl, by decide +kernel, rfl, by decide +kernel, by decide +kernel⟩
def b_is_policy : FS := (fSeq (fIfS ((fOrT (fNotT (fTr (fC isiD (fCons (fV 0) (fCons (fK (.ty "tuple")) fNil))))) (fOrT (fB (fO (eqD true) (fC lenE (fCons (fV 0) fNil)) (fK (.int 2)))) (fNotT (fTr (fCall 3 m_is_between (fCons (fO ixE (fV 0) (fK (.int 0))) (fCons (fK (.int 1)) (fCons (fK c_MOST_LINES) fNil))))))))) (fRet (fK (.bl false))) fEnd) (fSeq (fAsg (fV 0) (gOr (gT 2 (gsCons (gN 1) (gsCons (gN 2) gsNil))) (gL 2 (gsCons (gN 1) (gsCons (gN 2) gsNil))))) (fSeq (fIfS ((fOrT (fNotT (fTr (fC isiD (fCons (fV 2) (fCons (fK (.ty "tuple")) fNil))))) (fNotT (fB (fChain leD leD (fK (.int 1)) (fC lenE (fCons (fV 2) fNil)) (fK c_MOST_STATES)))))) (fRet (fK (.bl false))) fEnd) (fRet (fC allD (fCons (fComp (fSrc (fV 2)) [3] (gN 3) fYes (fCall 3 m_is_row (fCons (fV 3) (fCons (fV 1) (fCons (fC lenE (fCons (fV 2) fNil)) fNil))))) fNil))))))
def m_is_policy : FF := callF 4 b_is_policy
/-! is_device -/
abbrev s_is_device : Stmt := top 26
theorem sc_is_device : FnScope ["value", "policy"] ["value"] (defScope s_is_device) := ⟨rfl, rfl, rfl, by decide +kernel, rfl, by decide +kernel, by decide +kernel⟩
def b_is_device : FS := (fSeq (fIfS ((fOrT (fNotT (fTr (fC isiD (fCons (fV 0) (fCons (fK (.ty "tuple")) fNil))))) (fOrT (fB (fO (inE true) (fC lenE (fCons (fV 0) fNil)) (fTup (fCons (fK (.int 2)) (fCons (fK (.int 3)) fNil))))) (fNotT (fTr (fC isiD (fCons (fO ixE (fV 0) (fK (.int 0))) (fCons (fK (.ty "str")) fNil)))))))) (fRet (fK (.bl false))) fEnd) (fSeq (fIfS ((fOrT ((fAndT (fB (fO (eqD false) (fC lenE (fCons (fV 0) fNil)) (fK (.int 2)))) (fB (fO (eqD true) (fO ixE (fV 0) (fK (.int 0))) (fK (.str "cache")))))) ((fAndT (fB (fO (eqD false) (fC lenE (fCons (fV 0) fNil)) (fK (.int 3)))) (fB (fO (inE true) (fO ixE (fV 0) (fK (.int 0))) (fK c_LEVELS))))))) (fRet (fK (.bl false))) fEnd) (fRet (fC allD (fCons (fComp (fSrc (fSl (fV 0) (fP (fK (.int 1))) fNoP)) [1] (gN 1) fYes (fCall 1 m_is_policy (fCons (fV 1) fNil))) fNil)))))
def m_is_device : FF := callF 2 b_is_device
/-! check_device -/
abbrev s_check_device : Stmt := top 27
theorem sc_check_device : FnScope ["device"] ["device"] (defScope s_check_device) := ⟨rfl, rfl, rfl, by decide +kernel, rfl, by decide +kernel, by decide +kernel⟩
def b_check_device : FS := (fIfS (fNotT (fTr (fCall 1 m_is_device (fCons (fV 0) fNil)))) (fNo) fEnd)
def m_check_device : FF := callF 1 b_check_device
/-! Cache.__init__ -/
abbrev s_Cache_init : Stmt := inClass (top 37) 2
theorem sc_Cache_init : FnScope ["self", "device"] ["self", "device"] (defScope s_Cache_init) := ⟨rfl, rfl, rfl, by decide +kernel, rfl, by decide +kernel, by decide +kernel⟩
def b_Cache_init : FS := (fSeq (fDrop (fCall 1 m_check_device (fCons (fV 1) fNil))) (fSeq (fPut 1 "pattern" (fV 0) (fV 1)) (fSeq (fPut 1 "box" (fV 0) (fMake 0 2 m_Box_init (fCons (fV 1) fNil))) (fSeq (fPut 1 "hit_number" (fV 0) (fK (.int 0))) (fPut 1 "miss_number" (fV 0) (fK (.int 0)))))))
def m_Cache_init : FF := callF 2 b_Cache_init
/-! answers -/
abbrev s_answers : Stmt := top 39
theorem sc_answers : FnScope ["device", "names", "box", "name"] ["device", "names"] (defScope s_answers) := ⟨rfl, rfl, rfl, by decide +kernel, rfl, by decide +kernel, by decide +kernel⟩
def b_answers : FS := (fSeq (fDrop (fCall 1 m_check_device (fCons (fV 0) fNil))) (fSeq (fDrop (fCall 1 m_check_history (fCons (fV 1) fNil))) (fSeq (fSet 2 (fMake 0 2 m_Box_init (fCons (fV 0) fNil))) (fRet (fC tupD (fCons (fComp (fSrc (fV 1)) [3] (gN 3) fYes (fMeth 0 "ask" 2 m_Box_ask (fV 2) (fCons (fV 3) fNil))) fNil))))))
def m_answers : FF := callF 4 b_answers
/-! count_misses -/
abbrev s_count_misses : Stmt := top 40
theorem sc_count_misses : FnScope ["device", "names"] ["device", "names"] (defScope s_count_misses) := ⟨rfl, rfl, rfl, by decide +kernel, rfl, by decide +kernel, by decide +kernel⟩
def b_count_misses : FS := (fRet (fOr (fM "tuple" tcountD (fCall 2 m_answers (fCons (fV 0) (fCons (fV 1) fNil))) (fCons (fK (.bl false)) fNil)) (fM "list" lcountD (fCall 2 m_answers (fCons (fV 0) (fCons (fV 1) fNil))) (fCons (fK (.bl false)) fNil))))
def m_count_misses : FF := callF 2 b_count_misses
/-! is_keeping -/
abbrev s_is_keeping : Stmt := top 33
theorem sc_is_keeping : FnScope ["names", "lines", "value", "nexts", "active", "time", "kept", "start"] ["names", "lines", "value"] (defScope s_is_keeping) := ⟨rfl, rfl, rfl, by decide +kernel, rfl, by decide +kernel, by decide +kernel⟩
def b_is_keeping : FS := (fSeq (fDrop (fCall 2 m_check_asked (fCons (fV 0) (fCons (fV 1) fNil)))) (fSeq (fIfS ((fOrT (fNotT (fTr (fC isiD (fCons (fV 2) (fCons (fK (.ty "tuple")) fNil))))) (fOrT (fB (fO (eqD true) (fC lenE (fCons (fV 2) fNil)) (fC lenE (fCons (fV 0) fNil)))) (fNotT (fTr (fC allD (fCons (fComp (fSrc (fV 2)) [6] (gN 6) fYes (fC isiD (fCons (fV 6) (fCons (fK (.ty "bool")) fNil)))) fNil))))))) (fRet (fK (.bl false))) fEnd) (fSeq (fAsg (fTup (fCons (fCall 1 m_next_requests (fCons (fV 0) fNil)) (fCons (fLst fNil) fNil))) (gOr (gT 2 (gsCons (gN 3) (gsCons (gN 4) gsNil))) (gL 2 (gsCons (gN 3) (gsCons (gN 4) gsNil))))) (fSeq (fFor (fEnum (fV 2)) (gOr (gT 2 (gsCons (gN 5) (gsCons (gN 6) gsNil))) (gL 2 (gsCons (gN 5) (gsCons (gN 6) gsNil)))) (fSeq (fSet 4 (fComp (fSrc (fV 4)) [7] (gN 7) (fB (fO gtD (fO ixE (fV 3) (fV 7)) (fV 5))) (fV 7))) (fSeq (fIfS ((fOrT (fB (fO geD (fC lenE (fCons (fV 4) fNil)) (fV 1))) ((fAndT (fTr (fV 6)) (fB (fO (isE false) (fO ixE (fV 3) (fV 5)) (fK .non))))))) (fRet (fK (.bl false))) fEnd) (fIfS (fTr (fV 6)) (fDrop ((fM "list" appendD (fV 4) (fCons (fV 5) fNil)))) fEnd)))) (fRet (fK (.bl true)))))))
def m_is_keeping : FF := callF 8 b_is_keeping
/-! _law_later -/
abbrev s__law_later : Stmt := top 50
theorem sc__law_later : FnScope ["_law_row_here", "_law_found", "_law_at", "_law_rest", "_law_spot"] ["_law_row_here"] (defScope s__law_later) := ⟨rfl, rfl, rfl, by decide +kernel, rfl, by decide +kernel, by decide +kernel⟩
def b__law_later : FS := (fSeq (fSet 1 (fLst fNil)) (fSeq (fFor (fRng1 (fC lenE (fCons (fV 0) fNil))) (gN 2) (fSeq (fSet 3 (fComp (fRng2 (fO addD (fV 2) (fK (.int 1))) (fC lenE (fCons (fV 0) fNil))) [4] (gN 4) (fB (fO (eqD false) (fO ixE (fV 0) (fV 4)) (fO ixE (fV 0) (fV 2)))) (fV 4))) (fDrop ((fM "list" appendD (fV 1) (fCons (fO ixE (fO addD (fV 3) (fLst (fCons (fK .non) fNil))) (fK (.int 0))) fNil)))))) (fRet (fV 1))))
def m__law_later : FF := callF 5 b__law_later
/-! count_lines -/
abbrev s_count_lines : Stmt := top 28
theorem sc_count_lines : FnScope ["device", "policy"] ["device"] (defScope s_count_lines) := ⟨rfl, rfl, rfl, by decide +kernel, rfl, by decide +kernel, by decide +kernel⟩
def b_count_lines : FS := (fSeq (fDrop (fCall 1 m_check_device (fCons (fV 0) fNil))) (fRet (fC sumD (fCons (fComp (fSrc (fSl (fV 0) (fP (fK (.int 1))) fNoP)) [1] (gN 1) fYes (fO ixE (fV 1) (fK (.int 0)))) fNil))))
def m_count_lines : FF := callF 2 b_count_lines
/-! _law_device_right -/
abbrev s__law_device_right : Stmt := top 52
theorem sc__law_device_right : FnScope ["_law_unit", "_law_row_here", "_law_many", "_law_told", "_law_goals", "_law_kept", "_law_box", "_law_goal", "_law_who"] ["_law_unit", "_law_row_here"] (defScope s__law_device_right) := ⟨rfl, rfl, rfl, by decide +kernel, rfl, by decide +kernel, by decide +kernel⟩
def b__law_device_right : FS := (fSeq (fAsg (fTup (fCons (fCall 1 m_count_lines (fCons (fV 0) fNil)) (fCons (fCall 2 m_answers (fCons (fV 0) (fCons (fV 1) fNil))) fNil))) (gOr (gT 2 (gsCons (gN 2) (gsCons (gN 3) gsNil))) (gL 2 (gsCons (gN 2) (gsCons (gN 3) gsNil))))) (fSeq (fSet 4 (fCall 1 m__law_later (fCons (fV 1) fNil))) (fSeq (fSet 5 (fC tupD (fCons (fComp (fSrc (fV 4)) [7] (gN 7) fYes ((fAndV (fO (isE true) (fV 7) (fK .non)) (fO ixE (fV 3) (fV 7))))) fNil))) (fSeq (fIfS ((fOrT (fNotT (fTr (fCall 1 m_is_device (fCons (fV 0) fNil)))) (fB (fO (isE true) (fCall 3 m_is_keeping (fCons (fV 1) (fCons (fV 2) (fCons (fV 5) fNil)))) (fK (.bl true)))))) (fRet (fK (.bl false))) fEnd) (fSeq (fIfS ((fOrT (fB (fO (eqD true) (fCall 2 m_count_misses (fCons (fV 0) (fCons (fV 1) fNil))) (fO subD (fC lenE (fCons (fV 1) fNil)) (fOr (fM "tuple" tcountD (fV 5) (fCons (fK (.bl true)) fNil)) (fM "list" lcountD (fV 5) (fCons (fK (.bl true)) fNil)))))) (fB (fO ltD (fCall 2 m_count_misses (fCons (fV 0) (fCons (fV 1) fNil))) (fCall 2 m_least_misses (fCons (fV 1) (fCons (fV 2) fNil))))))) (fRet (fK (.bl false))) fEnd) (fSeq (fSet 6 (fMake 1 2 m_Cache_init (fCons (fV 0) fNil))) (fRet ((fAndV (fO (eqD false) (fComp (fSrc (fV 1)) [8] (gN 8) fYes (fMeth 1 "request" 2 m_Cache_request (fV 6) (fCons (fV 8) fNil))) (fC lstE (fCons (fV 3) fNil))) (fO geD (fProp 1 "misses" 1 m_Cache_misses (fV 6)) (fCall 2 m_least_misses (fCons (fV 1) (fCons (fV 2) fNil)))))))))))))
def m__law_device_right : FF := callF 9 b__law_device_right
/-! _law_draw -/
abbrev s__law_draw : Stmt := top 44
theorem sc__law_draw : FnScope ["_law_pool_here", "_law_most", "_law_state", "_law_digit"] ["_law_pool_here", "_law_most"] (defScope s__law_draw) := ⟨rfl, rfl, rfl, by decide +kernel, rfl, by decide +kernel, by decide +kernel⟩
def b__law_draw : FS := (fSeq (fAsg (fO addD (fO ixE (fV 0) (fK (.int 2))) (fK (.int 1))) (gSE (fV 0) (fK (.int 2)))) (fSeq (fSet 2 (fC intD (fCons (fO ixE (fV 0) (fK (.int 0))) fNil))) (fSeq (fAsg (fO modD (fO addD (fO mulD (fV 2) (fO addD (fO modD (fV 2) (fK (.int 50021))) (fK (.int 30011)))) (fO mulD (fK (.int 80021)) (fO ixE (fV 0) (fK (.int 2))))) (fK (.int 2147483249))) (gSE (fV 0) (fK (.int 0)))) (fSeq (fIfS (fB (fO gtD (fO ixE (fV 0) (fK (.int 1))) (fK (.int 0)))) (fSeq (fAsg (fC divmodD (fCons (fO ixE (fV 0) (fK (.int 1))) (fCons (fV 1) fNil))) (gOr (gT 2 (gsCons (gSE (fV 0) (fK (.int 1))) (gsCons (gN 3) gsNil))) (gL 2 (gsCons (gSE (fV 0) (fK (.int 1))) (gsCons (gN 3) gsNil))))) (fRet (fV 3))) fEnd) (fRet (fO modD (fO fdivD (fO ixE (fV 0) (fK (.int 0))) (fK (.int 64))) (fV 1)))))))
def m__law_draw : FF := callF 4 b__law_draw
/-! _law_row_right -/
abbrev s__law_row_right : Stmt := top 53
theorem sc__law_row_right : FnScope ["_law_pool_here", "_law_row_here", "_law_told", "_law_at", "_law_many", "_law_first", "_law_second"] ["_law_pool_here", "_law_row_here"] (defScope s__law_row_right) := ⟨rfl, rfl, rfl, by decide +kernel, rfl, by decide +kernel, by decide +kernel⟩
def b__law_row_right : FS := (fSeq (fSet 2 (fComp (fRng2 (fK (.int 1)) (fK (.int 5))) [4] (gN 4) fYes (fCall 2 m_least_misses (fCons (fV 1) (fCons (fV 4) fNil))))) (fSeq (fIfS ((fOrT (fB (fO (eqD true) (fV 2) (fSortR (fV 2)))) ((fAndT (fB (fO (eqD true) (fV 2) (fLst fNil))) (fB (fO ltD (fO ixE (fV 2) (fU negD (fK (.int 1)))) (fC lenE (fCons (fC setOfE (fCons (fV 1) fNil)) fNil)))))))) (fRet (fK (.bl false))) fEnd) (fSeq (fIfS (fB (fO (eqD true) (fO ixE (fV 2) (fK (.int 0))) (fC lenE (fCons (fComp (fRng1 (fC lenE (fCons (fV 1) fNil))) [3] (gN 3) (fB (fO (eqD true) (fSl (fSl (fV 1) fNoP (fP (fV 3))) (fP (fU negD (fK (.int 1)))) fNoP) (fSl (fV 1) (fP (fV 3)) (fP (fO addD (fV 3) (fK (.int 1))))))) (fV 3)) fNil)))) (fRet (fK (.bl false))) fEnd) (fSeq (fIfS (fB (fO (eqD true) (fComp (fRng2 (fC lenE (fCons (fC setOfE (fCons (fV 1) fNil)) fNil)) (fK (.int 5))) [4] (gN 4) ((fAndT (fB (fO gtD (fV 4) (fK (.int 0)))) (fB (fO (eqD true) (fO ixE (fV 2) (fO subD (fV 4) (fK (.int 1)))) (fC lenE (fCons (fC setOfE (fCons (fV 1) fNil)) fNil)))))) (fV 4)) (fLst fNil))) (fRet (fK (.bl false))) fEnd) (fSeq (fPar [3, 4] (fCons (fCall 2 m__law_draw (fCons (fV 0) (fCons (fO addD (fC lenE (fCons (fV 1) fNil)) (fK (.int 1))) fNil))) (fCons (fO addD (fK (.int 1)) (fCall 2 m__law_draw (fCons (fV 0) (fCons (fK (.int 4)) fNil)))) fNil))) (fSeq (fPar [5, 6] (fCons (fCall 2 m_least_misses (fCons (fSl (fV 1) fNoP (fP (fV 3))) (fCons (fV 4) fNil))) (fCons (fCall 2 m_least_misses (fCons (fSl (fV 1) (fP (fV 3)) fNoP) (fCons (fV 4) fNil))) fNil))) (fSeq (fIfS ((fOrT (fB (fO gtD (fV 5) (fO ixE (fV 2) (fO subD (fV 4) (fK (.int 1)))))) (fOrT (fB (fO gtD (fO ixE (fV 2) (fO subD (fV 4) (fK (.int 1)))) (fO addD (fV 5) (fV 6)))) (fB (fO gtD (fV 6) (fO addD (fO ixE (fV 2) (fO subD (fV 4) (fK (.int 1)))) (fV 4))))))) (fRet (fK (.bl false))) fEnd) (fRet (fO (eqD false) (fOr (fM "tuple" tcountD (fCall 2 m_best_keeping (fCons (fV 1) (fCons (fV 4) fNil))) (fCons (fK (.bl true)) fNil)) (fM "list" lcountD (fCall 2 m_best_keeping (fCons (fV 1) (fCons (fV 4) fNil))) (fCons (fK (.bl true)) fNil))) (fO subD (fC lenE (fCons (fV 1) fNil)) (fO ixE (fV 2) (fO subD (fV 4) (fK (.int 1))))))))))))))
def m__law_row_right : FF := callF 7 b__law_row_right
/-! _law_row -/
abbrev s__law_row : Stmt := top 49
theorem sc__law_row : FnScope ["_law_pool_here", "_law_many", "_law_most", "_law_count", "_law_who", "_law_at"] ["_law_pool_here", "_law_many", "_law_most"] (defScope s__law_row) := ⟨rfl, rfl, rfl, by decide +kernel, rfl, by decide +kernel, by decide +kernel⟩
def b__law_row : FS := (fSeq (fAsg (fTup (fCons (fCall 2 m__law_draw (fCons (fV 0) (fCons (fO addD (fV 1) (fK (.int 1))) fNil))) (fCons (fO addD (fK (.int 1)) (fCall 2 m__law_draw (fCons (fV 0) (fCons (fV 2) fNil)))) fNil))) (gOr (gT 2 (gsCons (gN 3) (gsCons (gN 4) gsNil))) (gL 2 (gsCons (gN 3) (gsCons (gN 4) gsNil))))) (fSeq (fIfS (fB (fO (eqD false) (fCall 2 m__law_draw (fCons (fV 0) (fCons (fK (.int 4)) fNil))) (fK (.int 0)))) (fRet (fC tupD (fCons (fComp (fRng1 (fV 3)) [5] (gN 5) fYes (fO ixE (fK (.str "abcdefghijkl")) (fO modD (fV 5) (fV 4)))) fNil))) fEnd) (fRet (fC tupD (fCons (fComp (fRng1 (fV 3)) [5] (gN 5) fYes (fO ixE (fK (.str "abcdefghijkl")) (fCall 2 m__law_draw (fCons (fV 0) (fCons (fV 4) fNil))))) fNil)))))
def m__law_row : FF := callF 6 b__law_row
/-! _law_policy -/
abbrev s__law_policy : Stmt := top 45
theorem sc__law_policy : FnScope ["_law_pool_here", "_law_lines", "_law_states", "_law_rows", "_law_turn", "_law_hits", "_law_line"] ["_law_pool_here", "_law_lines", "_law_states"] (defScope s__law_policy) := ⟨rfl, rfl, rfl, by decide +kernel, rfl, by decide +kernel, by decide +kernel⟩
def b__law_policy : FS := (fSeq (fSet 3 (fLst fNil)) (fSeq (fFor (fRng1 (fV 2)) (gN 4) (fSeq (fSet 5 (fC tupD (fCons (fComp (fRng1 (fV 1)) [6] (gN 6) fYes (fCall 2 m__law_draw (fCons (fV 0) (fCons (fV 2) fNil)))) fNil))) (fDrop ((fM "list" appendD (fV 3) (fCons (fTup (fCons (fCall 2 m__law_draw (fCons (fV 0) (fCons (fV 1) fNil))) (fCons (fCall 2 m__law_draw (fCons (fV 0) (fCons (fV 2) fNil))) (fCons (fV 5) fNil)))) fNil)))))) (fRet (fTup (fCons (fV 1) (fCons (fC tupD (fCons (fV 3) fNil)) fNil))))))
def m__law_policy : FF := callF 7 b__law_policy
/-! _law_queue -/
abbrev s__law_queue : Stmt := top 47
theorem sc__law_queue : FnScope ["_law_lines", "_law_at"] ["_law_lines"] (defScope s__law_queue) := ⟨rfl, rfl, rfl, by decide +kernel, rfl, by decide +kernel, by decide +kernel⟩
def b__law_queue : FS := (fRet (fTup (fCons (fV 0) (fCons (fC tupD (fCons (fComp (fRng1 (fV 0)) [1] (gN 1) fYes (fTup (fCons (fV 1) (fCons (fO modD (fO addD (fV 1) (fK (.int 1))) (fV 0)) (fCons (fO mulD (fTup (fCons (fV 1) fNil)) (fV 0)) fNil))))) fNil)) fNil))))
def m__law_queue : FF := callF 2 b__law_queue
/-! _law_recent -/
abbrev s__law_recent : Stmt := top 46
theorem sc__law_recent : FnScope ["_law_lines", "_law_orders", "_law_rows", "_law_at", "_law_here", "_law_goals", "_law_line", "_law_spot", "_law_goal"] ["_law_lines"] (defScope s__law_recent) := ⟨rfl, rfl, rfl, by decide +kernel, rfl, by decide +kernel, by decide +kernel⟩
def b__law_recent : FS := (fSeq (fAsg (fTup (fCons (fLst (fCons (fTupR (fRg1 (fV 0))) fNil)) (fCons (fLst fNil) (fCons (fK (.int 0)) fNil)))) (gOr (gT 3 (gsCons (gN 1) (gsCons (gN 2) (gsCons (gN 3) gsNil)))) (gL 3 (gsCons (gN 1) (gsCons (gN 2) (gsCons (gN 3) gsNil)))))) (fSeq (whileF (fB (fO ltD (fV 3) (fC lenE (fCons (fV 1) fNil)))) (fSeq (fSet 4 (fO ixE (fV 1) (fV 3))) (fSeq (fSet 5 (fComp (fRng1 (fV 0)) [6] (gN 6) fYes (fO addD (fC tupD (fCons (fComp (fSrc (fV 4)) [7] (gN 7) (fB (fO (eqD true) (fV 7) (fV 6))) (fV 7)) fNil)) (fTup (fCons (fV 6) fNil))))) (fSeq (fDrop ((fM "list" extendD (fV 1) (fCons (fComp (fSrc (fV 5)) [8] (gN 8) (fB (fO (inE true) (fV 8) (fV 1))) (fV 8)) fNil)))) (fSeq (fDrop ((fM "list" appendD (fV 2) (fCons (fTup (fCons (fO ixE (fV 4) (fK (.int 0))) (fCons (fOr (fM "list" indexD (fV 1) (fCons (fO ixE (fV 5) (fO ixE (fV 4) (fK (.int 0)))) fNil)) (fM "tuple" tindexD (fV 1) (fCons (fO ixE (fV 5) (fO ixE (fV 4) (fK (.int 0)))) fNil))) (fCons (fC tupD (fCons (fComp (fSrc (fV 5)) [8] (gN 8) fYes (fOr (fM "list" indexD (fV 1) (fCons (fV 8) fNil)) (fM "tuple" tindexD (fV 1) (fCons (fV 8) fNil)))) fNil)) fNil)))) fNil)))) (fSet 3 (fO addD (fV 3) (fK (.int 1)))))))) 1000000) (fRet (fTup (fCons (fV 0) (fCons (fC tupD (fCons (fV 2) fNil)) fNil))))))
def m__law_recent : FF := callF 9 b__law_recent
/-! _law_device -/
abbrev s__law_device : Stmt := top 48
theorem sc__law_device : FnScope ["_law_pool_here", "_law_most", "_law_states", "_law_way", "_law_found", "_law_turn", "_law_lines", "_law_some", "_law_table"] ["_law_pool_here", "_law_most", "_law_states"] (defScope s__law_device) := ⟨rfl, rfl, rfl, by decide +kernel, rfl, by decide +kernel, by decide +kernel⟩
def b__law_device : FS := (fSeq (fPar [3, 4] (fCons (fCall 2 m__law_draw (fCons (fV 0) (fCons (fK (.int 6)) fNil))) (fCons (fLst fNil) fNil))) (fSeq (fFor (fRng1 (fK (.int 2))) (gN 5) (fSeq (fSet 6 (fO addD (fK (.int 1)) (fCall 2 m__law_draw (fCons (fV 0) (fCons (fV 1) fNil))))) (fSeq (fSet 7 (fLst (fCons (fCall 1 m__law_recent (fCons (fV 6) fNil)) (fCons (fCall 1 m__law_queue (fCons (fV 6) fNil)) fNil)))) (fSeq (fSet 8 (fCall 3 m__law_policy (fCons (fV 0) (fCons (fV 6) (fCons (fO addD (fK (.int 1)) (fCall 2 m__law_draw (fCons (fV 0) (fCons (fV 2) fNil)))) fNil))))) (fDrop ((fM "list" appendD (fV 4) (fCons (fO ixE (fO addD (fV 7) (fO mulD (fLst (fCons (fV 8) fNil)) (fK (.int 4)))) (fCall 2 m__law_draw (fCons (fV 0) (fCons (fK (.int 6)) fNil)))) fNil)))))))) (fSeq (fIfS (fB (fO ltD (fV 3) (fK (.int 3)))) (fRet (fTup (fCons (fK (.str "cache")) (fCons (fO ixE (fV 4) (fK (.int 0))) fNil)))) fEnd) (fRet (fTup (fCons (fO ixE (fLst (fCons (fK (.str "plain")) (fCons (fK (.str "inclusive")) (fCons (fK (.str "victim")) fNil)))) (fO subD (fV 3) (fK (.int 3)))) (fCons (fO ixE (fV 4) (fK (.int 0))) (fCons (fO ixE (fV 4) (fK (.int 1))) fNil))))))))
def m__law_device : FF := callF 9 b__law_device
/-! _law_kit -/
abbrev s__law_kit : Stmt := top 51
theorem sc__law_kit : FnScope ["_law_pool_here", "_law_way", "_law_many"] ["_law_pool_here"] (defScope s__law_kit) := ⟨rfl, rfl, rfl, by decide +kernel, rfl, by decide +kernel, by decide +kernel⟩
def b__law_kit : FS := (fSeq (fPar [1, 2] (fCons (fCall 2 m__law_draw (fCons (fV 0) (fCons (fK (.int 4)) fNil))) (fCons (fO addD (fK (.int 1)) (fCall 2 m__law_draw (fCons (fV 0) (fCons (fK (.int 4)) fNil)))) fNil))) (fSeq (fIfS (fB (fO ltD (fV 1) (fK (.int 2)))) (fRet (fCall 3 m__law_device (fCons (fV 0) (fCons (fK (.int 2)) (fCons (fK (.int 3)) fNil))))) fEnd) (fRet (fTup (fCons (fK (.str "cache")) (fCons (fO ixE (fLst (fCons (fCall 1 m__law_recent (fCons (fV 2) fNil)) (fCons (fCall 1 m__law_queue (fCons (fV 2) fNil)) (fCons (fCall 3 m__law_policy (fCons (fV 0) (fCons (fV 2) (fCons (fK (.int 4)) fNil)))) fNil)))) (fCall 2 m__law_draw (fCons (fV 0) (fCons (fK (.int 3)) fNil)))) fNil))))))
def m__law_kit : FF := callF 3 b__law_kit
/-! _law_right -/
abbrev s__law_right : Stmt := top 54
theorem sc__law_right : FnScope ["_law_pool_here", "_law_turn", "_law_unit", "_law_again", "_law_row_here"] ["_law_pool_here"] (defScope s__law_right) := ⟨rfl, rfl, rfl, by decide +kernel, rfl, by decide +kernel, by decide +kernel⟩
def b__law_right : FS := (fSeq (fFor (fRng1 (fK (.int 3))) (gN 1) (fSeq (fSet 2 (fCall 1 m__law_kit (fCons (fV 0) fNil))) (fFor (fRng1 (fK (.int 3))) (gN 3) (fSeq (fSet 4 (fCall 3 m__law_row (fCons (fV 0) (fCons (fK (.int 30)) (fCons (fK (.int 7)) fNil))))) (fIfS ((fOrT (fNotT (fTr (fCall 2 m__law_device_right (fCons (fV 2) (fCons (fV 4) fNil))))) (fNotT (fTr (fCall 2 m__law_row_right (fCons (fV 0) (fCons (fV 4) fNil))))))) (fRet (fK (.bl false))) fEnd))))) (fRet (fK (.bl true))))
def m__law_right : FF := callF 5 b__law_right
/-! _law_pool -/
abbrev s__law_pool : Stmt := top 43
theorem sc__law_pool : FnScope ["_law_figure", "_law_digits"] ["_law_figure"] (defScope s__law_pool) := ⟨rfl, rfl, rfl, by decide +kernel, rfl, by decide +kernel, by decide +kernel⟩
def b__law_pool : FS := (fSeq (fSet 1 (fIf ((fOrT (fB (fO ltD (fV 0) (fK (.int 0)))) (fB (fO geD (fV 0) (fO powD (fK (.int 10)) (fK (.int 18))))))) (fC absD (fCons (fV 0) fNil)) (fK (.int 0)))) (fRet (fLst (fCons (fO modD (fC intD (fCons (fV 0) fNil)) (fK (.int 2147483249))) (fCons (fV 1) (fCons (fK (.int 0)) fNil))))))
def m__law_pool : FF := callF 2 b__law_pool
/-! _law_cell -/
abbrev s__law_cell : Stmt := top 42
theorem sc__law_cell : FnScope ["_law_script", "_law_k", "_law_state", "_law_figure"] ["_law_script", "_law_k"] (defScope s__law_cell) := ⟨rfl, rfl, rfl, by decide +kernel, rfl, by decide +kernel, by decide +kernel⟩
def b__law_cell : FS := (fSeq (fIfS (fB (fO ltD (fV 1) (fC lenE (fCons (fV 0) fNil)))) (fRet (fC intD (fCons (fO ixE (fV 0) (fV 1)) fNil))) fEnd) (fSeq (fSet 2 (fO modD (fO mulD (fK (.int 60013)) (fO addD (fO addD (fO mulD (fV 1) (fV 1)) (fO mulD (fK (.int 5)) (fV 1))) (fK (.int 3)))) (fK (.int 2147483249)))) (fSeq (fFor (fSrc (fSl (fV 0) fNoP (fP (fK (.int 3))))) (gN 3) (fSet 2 (fO modD (fO addD (fO mulD (fV 2) (fK (.int 41221))) (fC intD (fCons (fV 3) fNil))) (fK (.int 2147483249))))) (fRet (fV 2)))))
def m__law_cell : FF := callF 4 b__law_cell
/-! law -/
abbrev s_law : Stmt := top 55
theorem sc_law : FnScope ["_law_script", "_law_k"] ["_law_script"] (defScope s_law) := ⟨rfl, rfl, rfl, by decide +kernel, rfl, by decide +kernel, by decide +kernel⟩
def b_law : FS := (fRet (fC allD (fCons (fComp (fRng1 (fC maxD (fCons (fK (.int 2)) (fCons (fC minD (fCons (fC lenE (fCons (fV 0) fNil)) (fCons (fK (.int 6)) fNil))) fNil)))) [1] (gN 1) fYes (fCall 1 m__law_right (fCons (fCall 1 m__law_pool (fCons (fCall 2 m__law_cell (fCons (fV 0) (fCons (fV 1) fNil))) fNil)) fNil))) fNil)))
def m_law : FF := callF 2 b_law
structure Top (K : Frg) (mg : Str → Option Value) where
  C_Box : Addr
  C_Cache : Addr
  f_Cache_note_answer : Addr
  d_Cache_note_answer : FuncData
  F_Cache_note_answer : Fun K "note_answer" "Cache.note_answer" s_Cache_note_answer f_Cache_note_answer d_Cache_note_answer
  b_Cache_note_answer : Binds K d_Cache_note_answer ["self", "answer"] []
  me_Cache_note_answer : Meth K C_Cache "note_answer" f_Cache_note_answer
  f_Box_told : Addr
  d_Box_told : FuncData
  F_Box_told : Fun K "told" "Box.told" s_Box_told f_Box_told d_Box_told
  b_Box_told : Binds K d_Box_told ["self", "level"] []
  me_Box_told : Meth K C_Box "told" f_Box_told
  f_Box_touch : Addr
  d_Box_touch : FuncData
  F_Box_touch : Fun K "touch" "Box.touch" s_Box_touch f_Box_touch d_Box_touch
  b_Box_touch : Binds K d_Box_touch ["self", "level", "line"] []
  me_Box_touch : Meth K C_Box "touch" f_Box_touch
  f_Box_fill : Addr
  d_Box_fill : FuncData
  F_Box_fill : Fun K "fill" "Box.fill" s_Box_fill f_Box_fill d_Box_fill
  b_Box_fill : Binds K d_Box_fill ["self", "level", "name"] []
  me_Box_fill : Meth K C_Box "fill" f_Box_fill
  f_Box_go_down : Addr
  d_Box_go_down : FuncData
  F_Box_go_down : Fun K "go_down" "Box.go_down" s_Box_go_down f_Box_go_down d_Box_go_down
  b_Box_go_down : Binds K d_Box_go_down ["self", "name", "gone"] []
  me_Box_go_down : Meth K C_Box "go_down" f_Box_go_down
  f_Box_holds : Addr
  d_Box_holds : FuncData
  F_Box_holds : Fun K "holds" "Box.holds" s_Box_holds f_Box_holds d_Box_holds
  b_Box_holds : Binds K d_Box_holds ["self", "name"] []
  me_Box_holds : Meth K C_Box "holds" f_Box_holds
  f_Box_ask : Addr
  d_Box_ask : FuncData
  F_Box_ask : Fun K "ask" "Box.ask" s_Box_ask f_Box_ask d_Box_ask
  b_Box_ask : Binds K d_Box_ask ["self", "name"] []
  me_Box_ask : Meth K C_Box "ask" f_Box_ask
  f_is_name : Addr
  d_is_name : FuncData
  F_is_name : Fun K "is_name" "is_name" s_is_name f_is_name d_is_name
  b_is_name : Binds K d_is_name ["value"] []
  m_is_name : mg "is_name" = some (.ref f_is_name)
  f_check_name : Addr
  d_check_name : FuncData
  F_check_name : Fun K "check_name" "check_name" s_check_name f_check_name d_check_name
  b_check_name : Binds K d_check_name ["name"] []
  m_check_name : mg "check_name" = some (.ref f_check_name)
  f_Cache_request : Addr
  d_Cache_request : FuncData
  F_Cache_request : Fun K "request" "Cache.request" s_Cache_request f_Cache_request d_Cache_request
  b_Cache_request : Binds K d_Cache_request ["self", "name"] []
  me_Cache_request : Meth K C_Cache "request" f_Cache_request
  f_Cache_misses : Addr
  d_Cache_misses : FuncData
  F_Cache_misses : Fun K "misses" "Cache.misses" s_Cache_misses f_Cache_misses d_Cache_misses
  b_Cache_misses : Binds K d_Cache_misses ["self"] []
  p_Cache_misses : Addr
  pr_Cache_misses : PropOf K C_Cache "misses" p_Cache_misses f_Cache_misses
  f_next_requests : Addr
  d_next_requests : FuncData
  F_next_requests : Fun K "next_requests" "next_requests" s_next_requests f_next_requests d_next_requests
  b_next_requests : Binds K d_next_requests ["names"] []
  m_next_requests : mg "next_requests" = some (.ref f_next_requests)
  f_is_integer : Addr
  d_is_integer : FuncData
  F_is_integer : Fun K "is_integer" "is_integer" s_is_integer f_is_integer d_is_integer
  b_is_integer : Binds K d_is_integer ["value"] []
  m_is_integer : mg "is_integer" = some (.ref f_is_integer)
  f_is_between : Addr
  d_is_between : FuncData
  F_is_between : Fun K "is_between" "is_between" s_is_between f_is_between d_is_between
  b_is_between : Binds K d_is_between ["value", "least", "greatest"] []
  m_is_between : mg "is_between" = some (.ref f_is_between)
  f_check_lines : Addr
  d_check_lines : FuncData
  F_check_lines : Fun K "check_lines" "check_lines" s_check_lines f_check_lines d_check_lines
  b_check_lines : Binds K d_check_lines ["lines"] []
  m_check_lines : mg "check_lines" = some (.ref f_check_lines)
  f_check_history : Addr
  d_check_history : FuncData
  F_check_history : Fun K "check_history" "check_history" s_check_history f_check_history d_check_history
  b_check_history : Binds K d_check_history ["names"] []
  m_check_history : mg "check_history" = some (.ref f_check_history)
  f_check_asked : Addr
  d_check_asked : FuncData
  F_check_asked : Fun K "check_asked" "check_asked" s_check_asked f_check_asked d_check_asked
  b_check_asked : Binds K d_check_asked ["names", "lines"] []
  m_check_asked : mg "check_asked" = some (.ref f_check_asked)
  f_best_keeping : Addr
  d_best_keeping : FuncData
  F_best_keeping : Fun K "best_keeping" "best_keeping" s_best_keeping f_best_keeping d_best_keeping
  b_best_keeping : Binds K d_best_keeping ["names", "lines"] []
  m_best_keeping : mg "best_keeping" = some (.ref f_best_keeping)
  f_least_misses : Addr
  d_least_misses : FuncData
  F_least_misses : Fun K "least_misses" "least_misses" s_least_misses f_least_misses d_least_misses
  b_least_misses : Binds K d_least_misses ["names", "lines"] []
  m_least_misses : mg "least_misses" = some (.ref f_least_misses)
  f_Box_init : Addr
  d_Box_init : FuncData
  F_Box_init : Fun K "__init__" "Box.__init__" s_Box_init f_Box_init d_Box_init
  b_Box_init : Binds K d_Box_init ["self", "device"] []
  mk_Box : Mk K C_Box f_Box_init
  f_is_row : Addr
  d_is_row : FuncData
  F_is_row : Fun K "is_row" "is_row" s_is_row f_is_row d_is_row
  b_is_row : Binds K d_is_row ["value", "lines", "states"] []
  m_is_row : mg "is_row" = some (.ref f_is_row)
  f_is_policy : Addr
  d_is_policy : FuncData
  F_is_policy : Fun K "is_policy" "is_policy" s_is_policy f_is_policy d_is_policy
  b_is_policy : Binds K d_is_policy ["value"] []
  m_is_policy : mg "is_policy" = some (.ref f_is_policy)
  f_is_device : Addr
  d_is_device : FuncData
  F_is_device : Fun K "is_device" "is_device" s_is_device f_is_device d_is_device
  b_is_device : Binds K d_is_device ["value"] []
  m_is_device : mg "is_device" = some (.ref f_is_device)
  f_check_device : Addr
  d_check_device : FuncData
  F_check_device : Fun K "check_device" "check_device" s_check_device f_check_device d_check_device
  b_check_device : Binds K d_check_device ["device"] []
  m_check_device : mg "check_device" = some (.ref f_check_device)
  f_Cache_init : Addr
  d_Cache_init : FuncData
  F_Cache_init : Fun K "__init__" "Cache.__init__" s_Cache_init f_Cache_init d_Cache_init
  b_Cache_init : Binds K d_Cache_init ["self", "device"] []
  mk_Cache : Mk K C_Cache f_Cache_init
  f_answers : Addr
  d_answers : FuncData
  F_answers : Fun K "answers" "answers" s_answers f_answers d_answers
  b_answers : Binds K d_answers ["device", "names"] []
  m_answers : mg "answers" = some (.ref f_answers)
  f_count_misses : Addr
  d_count_misses : FuncData
  F_count_misses : Fun K "count_misses" "count_misses" s_count_misses f_count_misses d_count_misses
  b_count_misses : Binds K d_count_misses ["device", "names"] []
  m_count_misses : mg "count_misses" = some (.ref f_count_misses)
  f_is_keeping : Addr
  d_is_keeping : FuncData
  F_is_keeping : Fun K "is_keeping" "is_keeping" s_is_keeping f_is_keeping d_is_keeping
  b_is_keeping : Binds K d_is_keeping ["names", "lines", "value"] []
  m_is_keeping : mg "is_keeping" = some (.ref f_is_keeping)
  f__law_later : Addr
  d__law_later : FuncData
  F__law_later : Fun K "_law_later" "_law_later" s__law_later f__law_later d__law_later
  b__law_later : Binds K d__law_later ["_law_row_here"] []
  m__law_later : mg "_law_later" = some (.ref f__law_later)
  f_count_lines : Addr
  d_count_lines : FuncData
  F_count_lines : Fun K "count_lines" "count_lines" s_count_lines f_count_lines d_count_lines
  b_count_lines : Binds K d_count_lines ["device"] []
  m_count_lines : mg "count_lines" = some (.ref f_count_lines)
  f__law_device_right : Addr
  d__law_device_right : FuncData
  F__law_device_right : Fun K "_law_device_right" "_law_device_right" s__law_device_right f__law_device_right d__law_device_right
  b__law_device_right : Binds K d__law_device_right ["_law_unit", "_law_row_here"] []
  m__law_device_right : mg "_law_device_right" = some (.ref f__law_device_right)
  f__law_draw : Addr
  d__law_draw : FuncData
  F__law_draw : Fun K "_law_draw" "_law_draw" s__law_draw f__law_draw d__law_draw
  b__law_draw : Binds K d__law_draw ["_law_pool_here", "_law_most"] []
  m__law_draw : mg "_law_draw" = some (.ref f__law_draw)
  f__law_row_right : Addr
  d__law_row_right : FuncData
  F__law_row_right : Fun K "_law_row_right" "_law_row_right" s__law_row_right f__law_row_right d__law_row_right
  b__law_row_right : Binds K d__law_row_right ["_law_pool_here", "_law_row_here"] []
  m__law_row_right : mg "_law_row_right" = some (.ref f__law_row_right)
  f__law_row : Addr
  d__law_row : FuncData
  F__law_row : Fun K "_law_row" "_law_row" s__law_row f__law_row d__law_row
  b__law_row : Binds K d__law_row ["_law_pool_here", "_law_many", "_law_most"] []
  m__law_row : mg "_law_row" = some (.ref f__law_row)
  f__law_policy : Addr
  d__law_policy : FuncData
  F__law_policy : Fun K "_law_policy" "_law_policy" s__law_policy f__law_policy d__law_policy
  b__law_policy : Binds K d__law_policy ["_law_pool_here", "_law_lines", "_law_states"] []
  m__law_policy : mg "_law_policy" = some (.ref f__law_policy)
  f__law_queue : Addr
  d__law_queue : FuncData
  F__law_queue : Fun K "_law_queue" "_law_queue" s__law_queue f__law_queue d__law_queue
  b__law_queue : Binds K d__law_queue ["_law_lines"] []
  m__law_queue : mg "_law_queue" = some (.ref f__law_queue)
  f__law_recent : Addr
  d__law_recent : FuncData
  F__law_recent : Fun K "_law_recent" "_law_recent" s__law_recent f__law_recent d__law_recent
  b__law_recent : Binds K d__law_recent ["_law_lines"] []
  m__law_recent : mg "_law_recent" = some (.ref f__law_recent)
  f__law_device : Addr
  d__law_device : FuncData
  F__law_device : Fun K "_law_device" "_law_device" s__law_device f__law_device d__law_device
  b__law_device : Binds K d__law_device ["_law_pool_here", "_law_most", "_law_states"] []
  m__law_device : mg "_law_device" = some (.ref f__law_device)
  f__law_kit : Addr
  d__law_kit : FuncData
  F__law_kit : Fun K "_law_kit" "_law_kit" s__law_kit f__law_kit d__law_kit
  b__law_kit : Binds K d__law_kit ["_law_pool_here"] []
  m__law_kit : mg "_law_kit" = some (.ref f__law_kit)
  f__law_right : Addr
  d__law_right : FuncData
  F__law_right : Fun K "_law_right" "_law_right" s__law_right f__law_right d__law_right
  b__law_right : Binds K d__law_right ["_law_pool_here"] []
  m__law_right : mg "_law_right" = some (.ref f__law_right)
  f__law_pool : Addr
  d__law_pool : FuncData
  F__law_pool : Fun K "_law_pool" "_law_pool" s__law_pool f__law_pool d__law_pool
  b__law_pool : Binds K d__law_pool ["_law_figure"] []
  m__law_pool : mg "_law_pool" = some (.ref f__law_pool)
  f__law_cell : Addr
  d__law_cell : FuncData
  F__law_cell : Fun K "_law_cell" "_law_cell" s__law_cell f__law_cell d__law_cell
  b__law_cell : Binds K d__law_cell ["_law_script", "_law_k"] []
  m__law_cell : mg "_law_cell" = some (.ref f__law_cell)
  f_law : Addr
  d_law : FuncData
  F_law : Fun K "law" "law" s_law f_law d_law
  b_law : Binds K d_law ["_law_script"] []
  m_law : mg "law" = some (.ref f_law)
  cl_Box : Cls K C_Box
  mC_Box : mg "Box" = some (.ref C_Box)
  cl_Cache : Cls K C_Cache
  mC_Cache : mg "Cache" = some (.ref C_Cache)
  na_Box_mode : NoAttr K C_Box "mode"
  na_Box_policies : NoAttr K C_Box "policies"
  na_Box_rows : NoAttr K C_Box "rows"
  na_Box_stages : NoAttr K C_Box "stages"
  na_Cache_box : NoAttr K C_Cache "box"
  na_Cache_hit_number : NoAttr K C_Cache "hit_number"
  na_Cache_miss_number : NoAttr K C_Cache "miss_number"
  na_Cache_pattern : NoAttr K C_Cache "pattern"
  n_abs : mg "abs" = none
  n_all : mg "all" = none
  n_any : mg "any" = none
  n_bool : mg "bool" = none
  n_divmod : mg "divmod" = none
  n_enumerate : mg "enumerate" = none
  n_int : mg "int" = none
  n_isinstance : mg "isinstance" = none
  n_len : mg "len" = none
  n_list : mg "list" = none
  n_max : mg "max" = none
  n_min : mg "min" = none
  n_range : mg "range" = none
  n_set : mg "set" = none
  n_sorted : mg "sorted" = none
  n_str : mg "str" = none
  n_sum : mg "sum" = none
  n_tuple : mg "tuple" = none
  g_LETTERS : GlobIs K mg "LETTERS" c_LETTERS
  g_LEVELS : GlobIs K mg "LEVELS" c_LEVELS
  g_LONGEST : GlobIs K mg "LONGEST" c_LONGEST
  g_MOST_KEPT : GlobIs K mg "MOST_KEPT" c_MOST_KEPT
  g_MOST_LINES : GlobIs K mg "MOST_LINES" c_MOST_LINES
  g_MOST_REQUESTS : GlobIs K mg "MOST_REQUESTS" c_MOST_REQUESTS
  g_MOST_STATES : GlobIs K mg "MOST_STATES" c_MOST_STATES
def Top.ct {K : Frg} {mg : Str → Option Value} (T : Top K mg) (P : Program) (w : World) : Ct := ⟨fun n => ([some T.C_Box, some T.C_Cache] : List (Option Addr)).getD n none, P, w⟩
theorem Top.e_LETTERS {X : Cx} {ct : Ct} {pos : Pos} (T : Top X.K X.mg) (hg : Gl X "LETTERS") : SE X ct (.Name "LETTERS" pos) (fK c_LETTERS) := se_globIs hg T.g_LETTERS
theorem Top.e_LEVELS {X : Cx} {ct : Ct} {pos : Pos} (T : Top X.K X.mg) (hg : Gl X "LEVELS") : SE X ct (.Name "LEVELS" pos) (fK c_LEVELS) := se_globIs hg T.g_LEVELS
theorem Top.e_LONGEST {X : Cx} {ct : Ct} {pos : Pos} (T : Top X.K X.mg) (hg : Gl X "LONGEST") : SE X ct (.Name "LONGEST" pos) (fK c_LONGEST) := se_globIs hg T.g_LONGEST
theorem Top.e_MOST_KEPT {X : Cx} {ct : Ct} {pos : Pos} (T : Top X.K X.mg) (hg : Gl X "MOST_KEPT") : SE X ct (.Name "MOST_KEPT" pos) (fK c_MOST_KEPT) := se_globIs hg T.g_MOST_KEPT
theorem Top.e_MOST_LINES {X : Cx} {ct : Ct} {pos : Pos} (T : Top X.K X.mg) (hg : Gl X "MOST_LINES") : SE X ct (.Name "MOST_LINES" pos) (fK c_MOST_LINES) := se_globIs hg T.g_MOST_LINES
theorem Top.e_MOST_REQUESTS {X : Cx} {ct : Ct} {pos : Pos} (T : Top X.K X.mg) (hg : Gl X "MOST_REQUESTS") : SE X ct (.Name "MOST_REQUESTS" pos) (fK c_MOST_REQUESTS) := se_globIs hg T.g_MOST_REQUESTS
theorem Top.e_MOST_STATES {X : Cx} {ct : Ct} {pos : Pos} (T : Top X.K X.mg) (hg : Gl X "MOST_STATES") : SE X ct (.Name "MOST_STATES" pos) (fK c_MOST_STATES) := se_globIs hg T.g_MOST_STATES
section
variable {P : Program} {w : World} {K : Frg} {mg : Str → Option Value} {base : Heap}
theorem ok_Cache_note_answer (T : Top K mg) : FnG P w K mg base 1 T.f_Cache_note_answer T.d_Cache_note_answer ["self", "answer"] (spF K (T.ct P w) m_Cache_note_answer 2) := fn_sim T.F_Cache_note_answer sc_Cache_note_answer fun cdv A outer s H E hr hgd =>
  (ss_cons (by exact ss_if (by exact st_truth (by exact sv_l 1)) (by exact (ss_one (by exact ss_fldaug (C := T.C_Cache) (by exact sv_l 0) (by exact se_int) ia_add rfl (by exact T.cl_Cache) (by exact T.na_Cache_hit_number)))) (by exact (ss_one (by exact ss_fldaug (C := T.C_Cache) (by exact sv_l 0) (by exact se_int) ia_add rfl (by exact T.cl_Cache) (by exact T.na_Cache_miss_number))))) (by exact (ss_one (by exact ss_ret (by exact sv_l 1)))))
theorem ok_Box_told (T : Top K mg) : FnG P w K mg base 1 T.f_Box_told T.d_Box_told ["self", "level"] (spF K (T.ct P w) m_Box_told 2) := fn_sim T.F_Box_told sc_Box_told fun cdv A outer s H E hr hgd =>
  (ss_one (by exact ss_ret (by exact se_ixE (hu65 hr) (by exact se_ixE (hu65 hr) (by exact se_ixE (hu65 hr) (by exact se_fld (C := T.C_Box) (by exact sv_l 0) rfl (by exact T.cl_Box) (by exact T.na_Box_policies)) (by exact sv_l 1)) (by exact se_int)) (by exact se_ixE (hu65 hr) (by exact se_fld (C := T.C_Box) (by exact sv_l 0) rfl (by exact T.cl_Box) (by exact T.na_Box_stages)) (by exact sv_l 1)))))
theorem ok_Box_touch (T : Top K mg) : FnG P w K mg base 2 T.f_Box_touch T.d_Box_touch ["self", "level", "line"] (spF K (T.ct P w) m_Box_touch 3) := fn_sim T.F_Box_touch sc_Box_touch fun cdv A outer s H E hr hgd =>
  (ss_one (by exact ss_asg (by exact se_ixE (hu65 hr) (by exact se_ixE (hu65 hr) (by exact se_meth (ps := ["self", "level"]) (C := T.C_Box) (by exact sv_l 0) rfl (by exact T.cl_Box) (by exact T.me_Box_told) (by exact ok_Box_told T) (by exact hr.mono (by decide)) (by exact hgd) (by exact T.b_Box_told) (by exact (sa_cons (by exact sv_l 1) sa_nil))) (by exact se_int)) (by exact sv_l 2)) (by exact (sg_subE (ws := []) (hu65 hr) (by exact se_fld (C := T.C_Box) (by exact sv_l 0) rfl (by exact T.cl_Box) (by exact T.na_Box_stages)) (by exact sv_l 1)))))
theorem ok_Box_fill (T : Top K mg) : FnG P w K mg base 2 T.f_Box_fill T.d_Box_fill ["self", "level", "name"] (spF K (T.ct P w) m_Box_fill 3) := fn_sim T.F_Box_fill sc_Box_fill fun cdv A outer s H E hr hgd =>
  (ss_cons (by exact ss_asg (by exact se_meth (ps := ["self", "level"]) (C := T.C_Box) (by exact sv_l 0) rfl (by exact T.cl_Box) (by exact T.me_Box_told) (by exact ok_Box_told T) (by exact hr.mono (by decide)) (by exact hgd) (by exact T.b_Box_told) (by exact (sa_cons (by exact sv_l 1) sa_nil))) (by exact (sg_or2 (sg_tup rfl (sgs_cons (by exact (sg_name (ws := [3, 4, 5]) (i := 3) sc_Box_fill.nd rfl (Or.inl rfl) (by decide))) (sgs_cons (by exact (sg_name (ws := [3, 4, 5]) (i := 4) sc_Box_fill.nd rfl (Or.inl rfl) (by decide))) (sgs_cons (by exact (sg_name (ws := [3, 4, 5]) (i := 5) sc_Box_fill.nd rfl (Or.inl rfl) (by decide))) sgs_nil)))) (sg_unl rfl (sgs_cons (by exact (sg_name (ws := [3, 4, 5]) (i := 3) sc_Box_fill.nd rfl (Or.inl rfl) (by decide))) (sgs_cons (by exact (sg_name (ws := [3, 4, 5]) (i := 4) sc_Box_fill.nd rfl (Or.inl rfl) (by decide))) (sgs_cons (by exact (sg_name (ws := [3, 4, 5]) (i := 5) sc_Box_fill.nd rfl (Or.inl rfl) (by decide))) sgs_nil))))))) (by exact (ss_cons (by exact ss_set (i := 6) sc_Box_fill.nd rfl (Or.inl rfl) (by exact se_ixE (hu65 hr) (by exact se_ixE (hu65 hr) (by exact se_fld (C := T.C_Box) (by exact sv_l 0) rfl (by exact T.cl_Box) (by exact T.na_Box_rows)) (by exact sv_l 1)) (by exact sv_l 3))) (by exact (ss_cons (by exact ss_asg (by exact sv_l 2) (by exact (sg_subE (ws := []) (hu65 hr) (by exact se_ixE (hu65 hr) (by exact se_fld (C := T.C_Box) (by exact sv_l 0) rfl (by exact T.cl_Box) (by exact T.na_Box_rows)) (by exact sv_l 1)) (by exact sv_l 3)))) (by exact (ss_cons (by exact ss_asg (by exact sv_l 4) (by exact (sg_subE (ws := []) (hu65 hr) (by exact se_fld (C := T.C_Box) (by exact sv_l 0) rfl (by exact T.cl_Box) (by exact T.na_Box_stages)) (by exact sv_l 1)))) (by exact (ss_one (by exact ss_ret (by exact sv_l 6)))))))))))
theorem ok_Box_go_down (T : Top K mg) : FnG P w K mg base 3 T.f_Box_go_down T.d_Box_go_down ["self", "name", "gone"] (spF K (T.ct P w) m_Box_go_down 3) := fn_sim T.F_Box_go_down sc_Box_go_down fun cdv A outer s H E hr hgd =>
  (ss_cons (by exact ss_asg (by exact se_fld (C := T.C_Box) (by exact sv_l 0) rfl (by exact T.cl_Box) (by exact T.na_Box_rows)) (by exact (sg_or2 (sg_tup rfl (sgs_cons (by exact (sg_name (ws := [3, 4]) (i := 3) sc_Box_go_down.nd rfl (Or.inl rfl) (by decide))) (sgs_cons (by exact (sg_name (ws := [3, 4]) (i := 4) sc_Box_go_down.nd rfl (Or.inl rfl) (by decide))) sgs_nil))) (sg_unl rfl (sgs_cons (by exact (sg_name (ws := [3, 4]) (i := 3) sc_Box_go_down.nd rfl (Or.inl rfl) (by decide))) (sgs_cons (by exact (sg_name (ws := [3, 4]) (i := 4) sc_Box_go_down.nd rfl (Or.inl rfl) (by decide))) sgs_nil)))))) (by exact (ss_one (by exact ss_if (by exact st_cmp (by exact so_eq hr.units) (by exact se_fld (C := T.C_Box) (by exact sv_l 0) rfl (by exact T.cl_Box) (by exact T.na_Box_mode)) (by exact se_str) (nomark _)) (by exact (ss_one (by exact ss_if (by exact st_cmp (by exact so_inE (hu65 hr)) (by exact sv_l 1) (by exact sv_l 4) (by rfl)) (by exact (ss_cons (by exact ss_set (i := 5) sc_Box_go_down.nd rfl (Or.inl rfl) (by exact se_or2 (se_bm PySem.F.plainAttrs_list PySem.F.slot_list_index PySem.F.type_list_index (sm_index (hu65 hr)) (by exact sv_l 4) (by exact (sa_cons (by exact sv_l 1) sa_nil))) (se_bm PySem.F.plainAttrs_tuple PySem.F.slot_tuple_index PySem.F.type_tuple_index sm_tindex (by exact sv_l 4) (by exact (sa_cons (by exact sv_l 1) sa_nil))))) (by exact (ss_cons (by exact ss_asg (by exact sv_l 2) (by exact (sg_subE (ws := []) (hu65 hr) (by exact sv_l 4) (by exact sv_l 5)))) (by exact (ss_one (by exact ss_expr (by exact se_meth (ps := ["self", "level", "line"]) (C := T.C_Box) (by exact sv_l 0) rfl (by exact T.cl_Box) (by exact T.me_Box_touch) (by exact ok_Box_touch T) (by exact hr.mono (by decide)) (by exact hgd) (by exact T.b_Box_touch) (by exact (sa_cons (by exact se_int) (sa_cons (by exact sv_l 5) sa_nil))))))))))) (by exact (ss_one (by exact ss_if (by exact st_cmp so_isnotE (by exact sv_l 2) (by exact se_non) (nomark _)) (by exact (ss_one (by exact ss_expr (by exact se_meth (ps := ["self", "level", "name"]) (C := T.C_Box) (by exact sv_l 0) rfl (by exact T.cl_Box) (by exact T.me_Box_fill) (by exact ok_Box_fill T) (by exact hr.mono (by decide)) (by exact hgd) (by exact T.b_Box_fill) (by exact (sa_cons (by exact se_int) (sa_cons (by exact sv_l 2) sa_nil))))))) (by exact ss_nil))))))) (by exact (ss_one (by exact ss_if (by exact st_cmp (by exact so_inE (hu65 hr)) (by exact sv_l 1) (by exact sv_l 4) (by rfl)) (by exact (ss_one (by exact ss_expr (by exact se_meth (ps := ["self", "level", "line"]) (C := T.C_Box) (by exact sv_l 0) rfl (by exact T.cl_Box) (by exact T.me_Box_touch) (by exact ok_Box_touch T) (by exact hr.mono (by decide)) (by exact hgd) (by exact T.b_Box_touch) (by exact (sa_cons (by exact se_int) (sa_cons (by exact se_or2 (se_bm PySem.F.plainAttrs_list PySem.F.slot_list_index PySem.F.type_list_index (sm_index (hu65 hr)) (by exact sv_l 4) (by exact (sa_cons (by exact sv_l 1) sa_nil))) (se_bm PySem.F.plainAttrs_tuple PySem.F.slot_tuple_index PySem.F.type_tuple_index sm_tindex (by exact sv_l 4) (by exact (sa_cons (by exact sv_l 1) sa_nil)))) sa_nil))))))) (by exact (ss_cons (by exact ss_set (i := 6) sc_Box_go_down.nd rfl (Or.inl rfl) (by exact se_meth (ps := ["self", "level", "name"]) (C := T.C_Box) (by exact sv_l 0) rfl (by exact T.cl_Box) (by exact T.me_Box_fill) (by exact ok_Box_fill T) (by exact hr.mono (by decide)) (by exact hgd) (by exact T.b_Box_fill) (by exact (sa_cons (by exact se_int) (sa_cons (by exact sv_l 1) sa_nil))))) (by exact (ss_one (by exact ss_if (by exact SW.st (sw_and (by exact st_cmp (by exact so_eq hr.units) (by exact se_fld (C := T.C_Box) (by exact sv_l 0) rfl (by exact T.cl_Box) (by exact T.na_Box_mode)) (by exact se_str) (nomark _)) (sw_and (by exact st_cmp so_isnotE (by exact sv_l 6) (by exact se_non) (nomark _)) (sw_and1 (by exact st_cmp (by exact so_inE (hu65 hr)) (by exact sv_l 6) (by exact sv_l 3) (by rfl)))))) (by exact (ss_one (by exact ss_asg (by exact se_non) (by exact (sg_subE (ws := []) (hu65 hr) (by exact sv_l 3) (by exact se_or2 (se_bm PySem.F.plainAttrs_list PySem.F.slot_list_index PySem.F.type_list_index (sm_index (hu65 hr)) (by exact sv_l 3) (by exact (sa_cons (by exact sv_l 6) sa_nil))) (se_bm PySem.F.plainAttrs_tuple PySem.F.slot_tuple_index PySem.F.type_tuple_index sm_tindex (by exact sv_l 3) (by exact (sa_cons (by exact sv_l 6) sa_nil))))))))) (by exact ss_nil)))))))))))))
theorem ok_Box_holds (T : Top K mg) : FnG P w K mg base 1 T.f_Box_holds T.d_Box_holds ["self", "name"] (spF K (T.ct P w) m_Box_holds 2) := fn_sim T.F_Box_holds sc_Box_holds fun cdv A outer s H E hr hgd =>
  (ss_one (by exact ss_ret (by exact se_callB (sc_any rfl) (by rfl) (by exact T.n_any) (by decide +kernel) (by exact (sa_cons (by exact se_comp (own := [("lines", 2)]) rfl sc_Box_holds.nd (by exact (si_seq (by exact se_fld (C := T.C_Box) (by exact sv_l 0) rfl (by exact T.cl_Box) (by exact T.na_Box_rows)))) (blkOk_by (N := ["self", "name", "lines"]) (sc := defScope s_Box_holds) (own := [("lines", 2)]) (by decide +kernel)) (fun _ _ _ _ _ => (by exact (sg_name (ws := [2]) (i := 2) sc_Box_holds.nd rfl (Or.inl rfl) (by decide)))) (fun _ _ _ _ _ => sts_nil) (fun _ _ _ _ _ => (by exact se_cmp (by exact so_inE (hu65 hr)) (by exact sv_f 1) (by exact sv_l 2) (by rfl)))) sa_nil)))))
theorem ok_Box_ask (T : Top K mg) : FnG P w K mg base 4 T.f_Box_ask T.d_Box_ask ["self", "name"] (spF K (T.ct P w) m_Box_ask 2) := fn_sim T.F_Box_ask sc_Box_ask fun cdv A outer s H E hr hgd =>
  (ss_cons (by exact ss_set (i := 2) sc_Box_ask.nd rfl (Or.inl rfl) (by exact se_meth (ps := ["self", "name"]) (C := T.C_Box) (by exact sv_l 0) rfl (by exact T.cl_Box) (by exact T.me_Box_holds) (by exact ok_Box_holds T) (by exact hr.mono (by decide)) (by exact hgd) (by exact T.b_Box_holds) (by exact (sa_cons (by exact sv_l 1) sa_nil)))) (by exact (ss_cons (by exact ss_if (by exact st_cmp (by exact so_inE (hu65 hr)) (by exact sv_l 1) (by exact se_ixE (hu65 hr) (by exact se_fld (C := T.C_Box) (by exact sv_l 0) rfl (by exact T.cl_Box) (by exact T.na_Box_rows)) (by exact se_int)) (by rfl)) (by exact (ss_one (by exact ss_expr (by exact se_meth (ps := ["self", "level", "line"]) (C := T.C_Box) (by exact sv_l 0) rfl (by exact T.cl_Box) (by exact T.me_Box_touch) (by exact ok_Box_touch T) (by exact hr.mono (by decide)) (by exact hgd) (by exact T.b_Box_touch) (by exact (sa_cons (by exact se_int) (sa_cons (by exact se_or2 (se_bm PySem.F.plainAttrs_list PySem.F.slot_list_index PySem.F.type_list_index (sm_index (hu65 hr)) (by exact se_ixE (hu65 hr) (by exact se_fld (C := T.C_Box) (by exact sv_l 0) rfl (by exact T.cl_Box) (by exact T.na_Box_rows)) (by exact se_int)) (by exact (sa_cons (by exact sv_l 1) sa_nil))) (se_bm PySem.F.plainAttrs_tuple PySem.F.slot_tuple_index PySem.F.type_tuple_index sm_tindex (by exact se_ixE (hu65 hr) (by exact se_fld (C := T.C_Box) (by exact sv_l 0) rfl (by exact T.cl_Box) (by exact T.na_Box_rows)) (by exact se_int)) (by exact (sa_cons (by exact sv_l 1) sa_nil)))) sa_nil))))))) (by exact (ss_cons (by exact ss_set (i := 3) sc_Box_ask.nd rfl (Or.inl rfl) (by exact se_meth (ps := ["self", "level", "name"]) (C := T.C_Box) (by exact sv_l 0) rfl (by exact T.cl_Box) (by exact T.me_Box_fill) (by exact ok_Box_fill T) (by exact hr.mono (by decide)) (by exact hgd) (by exact T.b_Box_fill) (by exact (sa_cons (by exact se_int) (sa_cons (by exact sv_l 1) sa_nil))))) (by exact (ss_one (by exact ss_if (by exact st_cmp (by exact so_eq hr.units) (by exact se_callB sc_lenE (by rfl) (by exact T.n_len) (by decide +kernel) (by exact (sa_cons (by exact se_fld (C := T.C_Box) (by exact sv_l 0) rfl (by exact T.cl_Box) (by exact T.na_Box_rows)) sa_nil))) (by exact se_int) (nomark _)) (by exact (ss_one (by exact ss_expr (by exact se_meth (ps := ["self", "name", "gone"]) (C := T.C_Box) (by exact sv_l 0) rfl (by exact T.cl_Box) (by exact T.me_Box_go_down) (by exact ok_Box_go_down T) (by exact hr.mono (by decide)) (by exact hgd) (by exact T.b_Box_go_down) (by exact (sa_cons (by exact sv_l 1) (sa_cons (by exact sv_l 3) sa_nil))))))) (by exact ss_nil))))))) (by exact (ss_one (by exact ss_ret (by exact sv_l 2)))))))
theorem ok_is_name (T : Top K mg) : FnG P w K mg base 1 T.f_is_name T.d_is_name ["value"] (spF K (T.ct P w) m_is_name 1) := fn_sim T.F_is_name sc_is_name fun cdv A outer s H E hr hgd =>
  (ss_cons (by exact ss_if (by exact SW.st (sw_or (by exact st_not (by exact st_truth (by exact se_callB sc_isi (by rfl) (by exact T.n_isinstance) (by decide +kernel) (by exact (sa_cons (by exact sv_l 0) (sa_cons (by exact se_ty (by rfl) (by exact T.n_str) (by decide +kernel)) sa_nil)))))) (sw_or1 (by exact st_not (by exact st_chain so_le so_le (by exact se_int) (by exact se_callB sc_lenE (by rfl) (by exact T.n_len) (by decide +kernel) (by exact (sa_cons (by exact sv_l 0) sa_nil))) (by exact T.e_LONGEST rfl)))))) (by exact (ss_one (by exact ss_ret (by exact se_bl)))) (by exact ss_nil)) (by exact (ss_one (by exact ss_ret (by exact se_callB (sc_all rfl) (by rfl) (by exact T.n_all) (by decide +kernel) (by exact (sa_cons (by exact se_comp (own := [("letter", 1)]) rfl sc_is_name.nd (by exact (si_seq (by exact sv_l 0))) (blkOk_by (N := ["value", "letter"]) (sc := defScope s_is_name) (own := [("letter", 1)]) (by decide +kernel)) (fun _ _ _ _ _ => (by exact (sg_name (ws := [1]) (i := 1) sc_is_name.nd rfl (Or.inl rfl) (by decide)))) (fun _ _ _ _ _ => sts_nil) (fun _ _ _ _ _ => (by exact se_cmp (by exact so_inE (hu65 hr)) (by exact sv_l 1) (by exact T.e_LETTERS rfl) (by rfl)))) sa_nil)))))))
theorem ok_check_name (T : Top K mg) : FnG P w K mg base 2 T.f_check_name T.d_check_name ["name"] (spF K (T.ct P w) m_check_name 1) := fn_sim T.F_check_name sc_check_name fun cdv A outer s H E hr hgd =>
  (ss_one (by exact ss_if (by exact st_not (by exact st_truth (by exact se_call (ps := ["value"]) (by exact ok_is_name T) (by exact hr.mono (by decide)) (by exact hgd) (by rfl) (by exact T.m_is_name) (by exact T.F_is_name.kp) (by exact T.b_is_name) (by exact (sa_cons (by exact sv_l 0) sa_nil))))) (by exact (ss_one (by exact ss_never))) (by exact ss_nil)))
theorem ok_Cache_request (T : Top K mg) : FnG P w K mg base 5 T.f_Cache_request T.d_Cache_request ["self", "name"] (spF K (T.ct P w) m_Cache_request 2) := fn_sim T.F_Cache_request sc_Cache_request fun cdv A outer s H E hr hgd =>
  (ss_cons (by exact ss_expr (by exact se_call (ps := ["name"]) (by exact ok_check_name T) (by exact hr.mono (by decide)) (by exact hgd) (by rfl) (by exact T.m_check_name) (by exact T.F_check_name.kp) (by exact T.b_check_name) (by exact (sa_cons (by exact sv_l 1) sa_nil)))) (by exact (ss_one (by exact ss_ret (by exact se_meth (ps := ["self", "answer"]) (C := T.C_Cache) (by exact sv_l 0) rfl (by exact T.cl_Cache) (by exact T.me_Cache_note_answer) (by exact ok_Cache_note_answer T) (by exact hr.mono (by decide)) (by exact hgd) (by exact T.b_Cache_note_answer) (by exact (sa_cons (by exact se_meth (ps := ["self", "name"]) (C := T.C_Box) (by exact se_fld (C := T.C_Cache) (by exact sv_l 0) rfl (by exact T.cl_Cache) (by exact T.na_Cache_box)) rfl (by exact T.cl_Box) (by exact T.me_Box_ask) (by exact ok_Box_ask T) (by exact hr.mono (by decide)) (by exact hgd) (by exact T.b_Box_ask) (by exact (sa_cons (by exact sv_l 1) sa_nil))) sa_nil)))))))
theorem ok_Cache_misses (T : Top K mg) : FnG P w K mg base 1 T.f_Cache_misses T.d_Cache_misses ["self"] (spF K (T.ct P w) m_Cache_misses 1) := fn_sim T.F_Cache_misses sc_Cache_misses fun cdv A outer s H E hr hgd =>
  (ss_one (by exact ss_ret (by exact se_fld (C := T.C_Cache) (by exact sv_l 0) rfl (by exact T.cl_Cache) (by exact T.na_Cache_miss_number))))
theorem ok_next_requests (T : Top K mg) : FnG P w K mg base 1 T.f_next_requests T.d_next_requests ["names"] (spF K (T.ct P w) m_next_requests 1) := fn_sim T.F_next_requests sc_next_requests fun cdv A outer s H E hr hgd =>
  (ss_cons (by exact ss_par (i := 1) (j := 2) rfl sc_next_requests.nd rfl rfl (by decide) rfl rfl (by exact (sa_cons (by exact se_op so_mul (by exact se_lst (by exact (sa_cons (by exact se_non) sa_nil))) (by exact se_callB sc_lenE (by rfl) (by exact T.n_len) (by decide +kernel) (by exact (sa_cons (by exact sv_l 0) sa_nil)))) (sa_cons (by exact se_dnew) sa_nil))) (by rfl)) (by exact (ss_cons (by exact ss_for PassesOwn.never rfl (by exact (si_range3 rfl (by exact T.n_range) (by exact se_op so_sub (by exact se_callB sc_lenE (by rfl) (by exact T.n_len) (by decide +kernel) (by exact (sa_cons (by exact sv_l 0) sa_nil))) (by exact se_int)) (by exact se_un su_neg (by exact se_int)) (by exact se_un su_neg (by exact se_int)))) (by exact (sg_name (ws := [3]) (i := 3) sc_next_requests.nd rfl (Or.inl rfl) (by decide))) (by exact (ss_cons (by exact ss_asg (by exact se_dget (hu65 hr) (by exact sv_l 2) (by exact se_ixE (hu65 hr) (by exact sv_l 0) (by exact sv_l 3)) ⟨rfl, rfl, rfl, rfl⟩) (by exact (sg_subE (ws := []) (hu65 hr) (by exact sv_l 1) (by exact sv_l 3)))) (by exact (ss_one (by exact ss_asg (by exact sv_l 3) (by exact (sg_subE (ws := []) (hu65 hr) (by exact sv_l 2) (by exact se_ixE (hu65 hr) (by exact sv_l 0) (by exact sv_l 3)))))))))) (by exact (ss_one (by exact ss_ret (by exact sv_l 1)))))))
theorem ok_is_integer (T : Top K mg) : FnG P w K mg base 1 T.f_is_integer T.d_is_integer ["value"] (spF K (T.ct P w) m_is_integer 1) := fn_sim T.F_is_integer sc_is_integer fun cdv A outer s H E hr hgd =>
  (ss_one (by exact ss_ret (by exact (se_and (by exact se_callB sc_isi (by rfl) (by exact T.n_isinstance) (by decide +kernel) (by exact (sa_cons (by exact sv_l 0) (sa_cons (by exact se_ty (by rfl) (by exact T.n_int) (by decide +kernel)) sa_nil)))) (se_one (by exact se_not (by exact se_callB sc_isi (by rfl) (by exact T.n_isinstance) (by decide +kernel) (by exact (sa_cons (by exact sv_l 0) (sa_cons (by exact se_ty (by rfl) (by exact T.n_bool) (by decide +kernel)) sa_nil))))))))))
theorem ok_is_between (T : Top K mg) : FnG P w K mg base 2 T.f_is_between T.d_is_between ["value", "least", "greatest"] (spF K (T.ct P w) m_is_between 3) := fn_sim T.F_is_between sc_is_between fun cdv A outer s H E hr hgd =>
  (ss_one (by exact ss_ret (by exact (se_and (by exact se_call (ps := ["value"]) (by exact ok_is_integer T) (by exact hr.mono (by decide)) (by exact hgd) (by rfl) (by exact T.m_is_integer) (by exact T.F_is_integer.kp) (by exact T.b_is_integer) (by exact (sa_cons (by exact sv_l 0) sa_nil))) (se_one (by exact se_chain so_le so_le (by exact sv_l 1) (by exact sv_l 0) (by exact sv_l 2)))))))
theorem ok_check_lines (T : Top K mg) : FnG P w K mg base 3 T.f_check_lines T.d_check_lines ["lines"] (spF K (T.ct P w) m_check_lines 1) := fn_sim T.F_check_lines sc_check_lines fun cdv A outer s H E hr hgd =>
  (ss_one (by exact ss_if (by exact st_not (by exact st_truth (by exact se_call (ps := ["value", "least", "greatest"]) (by exact ok_is_between T) (by exact hr.mono (by decide)) (by exact hgd) (by rfl) (by exact T.m_is_between) (by exact T.F_is_between.kp) (by exact T.b_is_between) (by exact (sa_cons (by exact sv_l 0) (sa_cons (by exact se_int) (sa_cons (by exact T.e_MOST_LINES rfl) sa_nil))))))) (by exact (ss_one (by exact ss_never))) (by exact ss_nil)))
theorem ok_check_history (T : Top K mg) : FnG P w K mg base 2 T.f_check_history T.d_check_history ["names"] (spF K (T.ct P w) m_check_history 1) := fn_sim T.F_check_history sc_check_history fun cdv A outer s H E hr hgd =>
  (ss_cons (by exact ss_if (by exact SW.st (sw_or (by exact st_not (by exact st_truth (by exact se_callB sc_isi (by rfl) (by exact T.n_isinstance) (by decide +kernel) (by exact (sa_cons (by exact sv_l 0) (sa_cons (by exact se_ty (by rfl) (by exact T.n_tuple) (by decide +kernel)) sa_nil)))))) (sw_or1 (by exact st_cmp so_gt (by exact se_callB sc_lenE (by rfl) (by exact T.n_len) (by decide +kernel) (by exact (sa_cons (by exact sv_l 0) sa_nil))) (by exact T.e_MOST_REQUESTS rfl) (nomark _))))) (by exact (ss_one (by exact ss_never))) (by exact ss_nil)) (by exact (ss_one (by exact ss_for PassesOwn.never rfl (by exact (si_enum rfl (by exact T.n_enumerate) (by exact sv_l 0))) (by exact (sg_or2 (sg_tup rfl (sgs_cons (by exact (sg_name (ws := [1, 2]) (i := 1) sc_check_history.nd rfl (Or.inl rfl) (by decide))) (sgs_cons (by exact (sg_name (ws := [1, 2]) (i := 2) sc_check_history.nd rfl (Or.inl rfl) (by decide))) sgs_nil))) (sg_unl rfl (sgs_cons (by exact (sg_name (ws := [1, 2]) (i := 1) sc_check_history.nd rfl (Or.inl rfl) (by decide))) (sgs_cons (by exact (sg_name (ws := [1, 2]) (i := 2) sc_check_history.nd rfl (Or.inl rfl) (by decide))) sgs_nil))))) (by exact (ss_one (by exact ss_if (by exact st_not (by exact st_truth (by exact se_call (ps := ["value"]) (by exact ok_is_name T) (by exact hr.mono (by decide)) (by exact hgd) (by rfl) (by exact T.m_is_name) (by exact T.F_is_name.kp) (by exact T.b_is_name) (by exact (sa_cons (by exact sv_l 2) sa_nil))))) (by exact (ss_one (by exact ss_never))) (by exact ss_nil))))))))
theorem ok_check_asked (T : Top K mg) : FnG P w K mg base 4 T.f_check_asked T.d_check_asked ["names", "lines"] (spF K (T.ct P w) m_check_asked 2) := fn_sim T.F_check_asked sc_check_asked fun cdv A outer s H E hr hgd =>
  (ss_cons (by exact ss_expr (by exact se_call (ps := ["names"]) (by exact ok_check_history T) (by exact hr.mono (by decide)) (by exact hgd) (by rfl) (by exact T.m_check_history) (by exact T.F_check_history.kp) (by exact T.b_check_history) (by exact (sa_cons (by exact sv_l 0) sa_nil)))) (by exact (ss_cons (by exact ss_expr (by exact se_call (ps := ["lines"]) (by exact ok_check_lines T) (by exact hr.mono (by decide)) (by exact hgd) (by rfl) (by exact T.m_check_lines) (by exact T.F_check_lines.kp) (by exact T.b_check_lines) (by exact (sa_cons (by exact sv_l 1) sa_nil)))) (by exact (ss_one (by exact ss_if (by exact st_cmp so_gt (by exact se_callB sc_lenE (by rfl) (by exact T.n_len) (by decide +kernel) (by exact (sa_cons (by exact sv_l 0) sa_nil))) (by exact T.e_MOST_KEPT rfl) (nomark _)) (by exact (ss_one (by exact ss_never))) (by exact ss_nil)))))))
theorem ok_best_keeping (T : Top K mg) : FnG P w K mg base 5 T.f_best_keeping T.d_best_keeping ["names", "lines"] (spF K (T.ct P w) m_best_keeping 2) := fn_sim T.F_best_keeping sc_best_keeping fun cdv A outer s H E hr hgd =>
  (ss_cons (by exact ss_expr (by exact se_call (ps := ["names", "lines"]) (by exact ok_check_asked T) (by exact hr.mono (by decide)) (by exact hgd) (by rfl) (by exact T.m_check_asked) (by exact T.F_check_asked.kp) (by exact T.b_check_asked) (by exact (sa_cons (by exact sv_l 0) (sa_cons (by exact sv_l 1) sa_nil))))) (by exact (ss_cons (by exact ss_asg (by exact se_tup (by exact (sa_cons (by exact se_call (ps := ["names"]) (by exact ok_next_requests T) (by exact hr.mono (by decide)) (by exact hgd) (by rfl) (by exact T.m_next_requests) (by exact T.F_next_requests.kp) (by exact T.b_next_requests) (by exact (sa_cons (by exact sv_l 0) sa_nil))) (sa_cons (by exact se_lst (by exact sa_nil)) sa_nil)))) (by exact (sg_or2 (sg_tup rfl (sgs_cons (by exact (sg_name (ws := [2, 3]) (i := 2) sc_best_keeping.nd rfl (Or.inr rfl) (by decide))) (sgs_cons (by exact (sg_name (ws := [2, 3]) (i := 3) sc_best_keeping.nd rfl (Or.inl rfl) (by decide))) sgs_nil))) (sg_unl rfl (sgs_cons (by exact (sg_name (ws := [2, 3]) (i := 2) sc_best_keeping.nd rfl (Or.inr rfl) (by decide))) (sgs_cons (by exact (sg_name (ws := [2, 3]) (i := 3) sc_best_keeping.nd rfl (Or.inl rfl) (by decide))) sgs_nil)))))) (by exact (ss_cons (by exact ss_setLc (i := 4) (own := [("goal", 6)]) rfl sc_best_keeping.nd rfl rfl (sw_true rfl rfl rfl (by decide +kernel)) (by exact (si_seq (by exact sv_c 2))) (blkOk_by (N := ["names", "lines", "nexts", "active", "found", "time", "goal", "last", "gone", "start"]) (sc := defScope s_best_keeping) (own := [("goal", 6)]) (by decide +kernel)) (fun _ _ _ _ _ => (by exact (sg_name (ws := [6]) (i := 6) sc_best_keeping.nd rfl (Or.inl rfl) (by decide)))) (fun _ _ _ _ _ => sts_nil) (fun _ _ _ _ _ => (by exact se_cmp so_isnotE (by exact sv_l 6) (by exact se_non) (nomark _)))) (by exact (ss_cons (by exact ss_for PassesOwn.never rfl (by exact (si_enum rfl (by exact T.n_enumerate) (by exact sv_c 2))) (by exact (sg_or2 (sg_tup rfl (sgs_cons (by exact (sg_name (ws := [5, 6]) (i := 5) sc_best_keeping.nd rfl (Or.inr rfl) (by decide))) (sgs_cons (by exact (sg_name (ws := [5, 6]) (i := 6) sc_best_keeping.nd rfl (Or.inl rfl) (by decide))) sgs_nil))) (sg_unl rfl (sgs_cons (by exact (sg_name (ws := [5, 6]) (i := 5) sc_best_keeping.nd rfl (Or.inr rfl) (by decide))) (sgs_cons (by exact (sg_name (ws := [5, 6]) (i := 6) sc_best_keeping.nd rfl (Or.inl rfl) (by decide))) sgs_nil))))) (by exact (ss_cons (by exact ss_setLc (i := 3) (own := [("start", 9)]) rfl sc_best_keeping.nd rfl rfl (sw_true rfl rfl rfl (by decide +kernel)) (by exact (si_seq (by exact sv_l 3))) (blkOk_by (N := ["names", "lines", "nexts", "active", "found", "time", "goal", "last", "gone", "start"]) (sc := defScope s_best_keeping) (own := [("start", 9)]) (by decide +kernel)) (fun _ _ _ _ _ => (by exact (sg_name (ws := [9]) (i := 9) sc_best_keeping.nd rfl (Or.inl rfl) (by decide)))) (fun _ _ _ _ _ => (sts_one (by exact st_cmp so_gt (by exact se_ixE (hu65 hr) (by exact sv_f 2) (by exact sv_l 9)) (by exact sv_f 5) (nomark _)))) (fun _ _ _ _ _ => (by exact sv_l 9))) (by exact (ss_cons (by exact ss_if (by exact st_cmp so_ge (by exact se_callB sc_lenE (by rfl) (by exact T.n_len) (by decide +kernel) (by exact (sa_cons (by exact sv_l 3) sa_nil))) (by exact sv_l 1) (nomark _)) (by exact (ss_cons (by exact ss_set (i := 7) sc_best_keeping.nd rfl (Or.inl rfl) (by exact se_callB (sc_max rfl) (by rfl) (by exact T.n_max) (by decide +kernel) (by exact (sa_cons (by exact se_comp (own := [("start", 9)]) rfl sc_best_keeping.nd (by exact (si_seq (by exact sv_l 3))) (blkOk_by (N := ["names", "lines", "nexts", "active", "found", "time", "goal", "last", "gone", "start"]) (sc := defScope s_best_keeping) (own := [("start", 9)]) (by decide +kernel)) (fun _ _ _ _ _ => (by exact (sg_name (ws := [9]) (i := 9) sc_best_keeping.nd rfl (Or.inl rfl) (by decide)))) (fun _ _ _ _ _ => sts_nil) (fun _ _ _ _ _ => (by exact se_ixE (hu65 hr) (by exact sv_f 2) (by exact sv_l 9)))) sa_nil)))) (by exact (ss_cons (by exact ss_set (i := 8) sc_best_keeping.nd rfl (Or.inl rfl) (by exact se_or2 (se_bm PySem.F.plainAttrs_list PySem.F.slot_list_index PySem.F.type_list_index (sm_index (hu65 hr)) (by exact sv_c 2) (by exact (sa_cons (by exact sv_l 7) sa_nil))) (se_bm PySem.F.plainAttrs_tuple PySem.F.slot_tuple_index PySem.F.type_tuple_index sm_tindex (by exact sv_c 2) (by exact (sa_cons (by exact sv_l 7) sa_nil))))) (by exact (ss_cons (by exact ss_asg (by exact se_bl) (by exact (sg_subE (ws := []) (hu65 hr) (by exact sv_l 4) (by exact sv_l 8)))) (by exact (ss_one (by exact ss_expr (by exact (se_bm PySem.F.plainAttrs_list PySem.F.slot_list_remove PySem.F.type_list_remove sm_remove (by exact sv_l 3) (by exact (sa_cons (by exact sv_l 8) sa_nil))))))))))))) (by exact ss_nil)) (by exact (ss_one (by exact ss_if (by exact st_cmp so_isnotE (by exact sv_l 6) (by exact se_non) (nomark _)) (by exact (ss_one (by exact ss_expr (by exact (se_bm PySem.F.plainAttrs_list PySem.F.slot_list_append PySem.F.type_list_append sm_append (by exact sv_l 3) (by exact (sa_cons (by exact sv_c 5) sa_nil))))))) (by exact ss_nil))))))))) (by exact (ss_one (by exact ss_ret (by exact se_callTy sc_tuple (by rfl) (by exact T.n_tuple) (by decide +kernel) (by exact (sa_cons (by exact sv_l 4) sa_nil)))))))))))))
theorem ok_least_misses (T : Top K mg) : FnG P w K mg base 6 T.f_least_misses T.d_least_misses ["names", "lines"] (spF K (T.ct P w) m_least_misses 2) := fn_sim T.F_least_misses sc_least_misses fun cdv A outer s H E hr hgd =>
  (ss_cons (by exact ss_set (i := 2) sc_least_misses.nd rfl (Or.inl rfl) (by exact se_call (ps := ["names", "lines"]) (by exact ok_best_keeping T) (by exact hr.mono (by decide)) (by exact hgd) (by rfl) (by exact T.m_best_keeping) (by exact T.F_best_keeping.kp) (by exact T.b_best_keeping) (by exact (sa_cons (by exact sv_l 0) (sa_cons (by exact sv_l 1) sa_nil))))) (by exact (ss_one (by exact ss_ret (by exact se_op so_sub (by exact se_callB sc_lenE (by rfl) (by exact T.n_len) (by decide +kernel) (by exact (sa_cons (by exact sv_l 0) sa_nil))) (by exact se_callB (sc_sum rfl) (by rfl) (by exact T.n_sum) (by decide +kernel) (by exact (sa_cons (by exact se_comp (own := [("kept", 3)]) rfl sc_least_misses.nd (by exact (si_seq (by exact sv_l 2))) (blkOk_by (N := ["names", "lines", "keeping", "kept"]) (sc := defScope s_least_misses) (own := [("kept", 3)]) (by decide +kernel)) (fun _ _ _ _ _ => (by exact (sg_name (ws := [3]) (i := 3) sc_least_misses.nd rfl (Or.inl rfl) (by decide)))) (fun _ _ _ _ _ => sts_nil) (fun _ _ _ _ _ => (by exact se_callTy sc_int (by rfl) (by exact T.n_int) (by decide +kernel) (by exact (sa_cons (by exact sv_l 3) sa_nil))))) sa_nil))))))))
theorem ok_Box_init (T : Top K mg) : FnG P w K mg base 1 T.f_Box_init T.d_Box_init ["self", "device"] (spF K (T.ct P w) m_Box_init 2) := fn_sim T.F_Box_init sc_Box_init fun cdv A outer s H E hr hgd =>
  (ss_cons (by exact ss_fld (C := T.C_Box) (by exact sv_l 0) (by exact se_ixE (hu65 hr) (by exact sv_l 1) (by exact se_int)) rfl (by exact T.cl_Box) (by exact T.na_Box_mode)) (by exact (ss_cons (by exact ss_fld (C := T.C_Box) (by exact sv_l 0) (by exact se_slice (by exact sv_l 1) (by exact so_some (by exact se_int)) so_none) rfl (by exact T.cl_Box) (by exact T.na_Box_policies)) (by exact (ss_cons (by exact ss_fld (C := T.C_Box) (by exact sv_l 0) (by exact se_op so_mul (by exact se_lst (by exact (sa_cons (by exact se_int) sa_nil))) (by exact se_callB sc_lenE (by rfl) (by exact T.n_len) (by decide +kernel) (by exact (sa_cons (by exact se_fld (C := T.C_Box) (by exact sv_l 0) rfl (by exact T.cl_Box) (by exact T.na_Box_policies)) sa_nil)))) rfl (by exact T.cl_Box) (by exact T.na_Box_stages)) (by exact (ss_one (by exact ss_fld (C := T.C_Box) (by exact sv_l 0) (by exact se_comp (own := [("policy", 2)]) rfl sc_Box_init.nd (by exact (si_seq (by exact se_fld (C := T.C_Box) (by exact sv_l 0) rfl (by exact T.cl_Box) (by exact T.na_Box_policies)))) (blkOk_by (N := ["self", "device", "policy"]) (sc := defScope s_Box_init) (own := [("policy", 2)]) (by decide +kernel)) (fun _ _ _ _ _ => (by exact (sg_name (ws := [2]) (i := 2) sc_Box_init.nd rfl (Or.inl rfl) (by decide)))) (fun _ _ _ _ _ => sts_nil) (fun _ _ _ _ _ => (by exact se_op so_mul (by exact se_lst (by exact (sa_cons (by exact se_non) sa_nil))) (by exact se_ixE (hu65 hr) (by exact sv_l 2) (by exact se_int))))) rfl (by exact T.cl_Box) (by exact T.na_Box_rows)))))))))
theorem ok_is_row (T : Top K mg) : FnG P w K mg base 3 T.f_is_row T.d_is_row ["value", "lines", "states"] (spF K (T.ct P w) m_is_row 3) := fn_sim T.F_is_row sc_is_row fun cdv A outer s H E hr hgd =>
  (ss_cons (by exact ss_if (by exact SW.st (sw_or (by exact st_not (by exact st_truth (by exact se_callB sc_isi (by rfl) (by exact T.n_isinstance) (by decide +kernel) (by exact (sa_cons (by exact sv_l 0) (sa_cons (by exact se_ty (by rfl) (by exact T.n_tuple) (by decide +kernel)) sa_nil)))))) (sw_or (by exact st_cmp (by exact so_ne hr.units) (by exact se_callB sc_lenE (by rfl) (by exact T.n_len) (by decide +kernel) (by exact (sa_cons (by exact sv_l 0) sa_nil))) (by exact se_int) (nomark _)) (sw_or1 (by exact st_not (by exact st_truth (by exact se_call (ps := ["value", "least", "greatest"]) (by exact ok_is_between T) (by exact hr.mono (by decide)) (by exact hgd) (by rfl) (by exact T.m_is_between) (by exact T.F_is_between.kp) (by exact T.b_is_between) (by exact (sa_cons (by exact se_ixE (hu65 hr) (by exact sv_l 0) (by exact se_int)) (sa_cons (by exact se_int) (sa_cons (by exact se_op so_sub (by exact sv_l 1) (by exact se_int)) sa_nil))))))))))) (by exact (ss_one (by exact ss_ret (by exact se_bl)))) (by exact ss_nil)) (by exact (ss_cons (by exact ss_if (by exact SW.st (sw_or (by exact st_not (by exact st_truth (by exact se_call (ps := ["value", "least", "greatest"]) (by exact ok_is_between T) (by exact hr.mono (by decide)) (by exact hgd) (by rfl) (by exact T.m_is_between) (by exact T.F_is_between.kp) (by exact T.b_is_between) (by exact (sa_cons (by exact se_ixE (hu65 hr) (by exact sv_l 0) (by exact se_int)) (sa_cons (by exact se_int) (sa_cons (by exact se_op so_sub (by exact sv_c 2) (by exact se_int)) sa_nil))))))) (sw_or (by exact st_not (by exact st_truth (by exact se_callB sc_isi (by rfl) (by exact T.n_isinstance) (by decide +kernel) (by exact (sa_cons (by exact se_ixE (hu65 hr) (by exact sv_l 0) (by exact se_int)) (sa_cons (by exact se_ty (by rfl) (by exact T.n_tuple) (by decide +kernel)) sa_nil)))))) (sw_or1 (by exact st_cmp (by exact so_ne hr.units) (by exact se_callB sc_lenE (by rfl) (by exact T.n_len) (by decide +kernel) (by exact (sa_cons (by exact se_ixE (hu65 hr) (by exact sv_l 0) (by exact se_int)) sa_nil))) (by exact sv_l 1) (nomark _)))))) (by exact (ss_one (by exact ss_ret (by exact se_bl)))) (by exact ss_nil)) (by exact (ss_one (by exact ss_ret (by exact se_callB (sc_all rfl) (by rfl) (by exact T.n_all) (by decide +kernel) (by exact (sa_cons (by exact se_comp (own := [("state", 3)]) rfl sc_is_row.nd (by exact (si_seq (by exact se_ixE (hu65 hr) (by exact sv_l 0) (by exact se_int)))) (blkOk_by (N := ["value", "lines", "states", "state"]) (sc := defScope s_is_row) (own := [("state", 3)]) (by decide +kernel)) (fun _ _ _ _ _ => (by exact (sg_name (ws := [3]) (i := 3) sc_is_row.nd rfl (Or.inl rfl) (by decide)))) (fun _ _ _ _ _ => sts_nil) (fun _ _ _ _ _ => (by exact se_call (ps := ["value", "least", "greatest"]) (by exact ok_is_between T) (by exact hr.mono (by decide)) (by exact hgd) (by rfl) (by exact T.m_is_between) (by exact T.F_is_between.kp) (by exact T.b_is_between) (by exact (sa_cons (by exact sv_l 3) (sa_cons (by exact se_int) (sa_cons (by exact se_op so_sub (by exact sv_f 2) (by exact se_int)) sa_nil))))))) sa_nil)))))))))
theorem ok_is_policy (T : Top K mg) : FnG P w K mg base 4 T.f_is_policy T.d_is_policy ["value"] (spF K (T.ct P w) m_is_policy 1) := fn_sim T.F_is_policy sc_is_policy fun cdv A outer s H E hr hgd =>
  (ss_cons (by exact ss_if (by exact SW.st (sw_or (by exact st_not (by exact st_truth (by exact se_callB sc_isi (by rfl) (by exact T.n_isinstance) (by decide +kernel) (by exact (sa_cons (by exact sv_l 0) (sa_cons (by exact se_ty (by rfl) (by exact T.n_tuple) (by decide +kernel)) sa_nil)))))) (sw_or (by exact st_cmp (by exact so_ne hr.units) (by exact se_callB sc_lenE (by rfl) (by exact T.n_len) (by decide +kernel) (by exact (sa_cons (by exact sv_l 0) sa_nil))) (by exact se_int) (nomark _)) (sw_or1 (by exact st_not (by exact st_truth (by exact se_call (ps := ["value", "least", "greatest"]) (by exact ok_is_between T) (by exact hr.mono (by decide)) (by exact hgd) (by rfl) (by exact T.m_is_between) (by exact T.F_is_between.kp) (by exact T.b_is_between) (by exact (sa_cons (by exact se_ixE (hu65 hr) (by exact sv_l 0) (by exact se_int)) (sa_cons (by exact se_int) (sa_cons (by exact T.e_MOST_LINES rfl) sa_nil))))))))))) (by exact (ss_one (by exact ss_ret (by exact se_bl)))) (by exact ss_nil)) (by exact (ss_cons (by exact ss_asg (by exact sv_l 0) (by exact (sg_or2 (sg_tup rfl (sgs_cons (by exact (sg_name (ws := [1, 2]) (i := 1) sc_is_policy.nd rfl (Or.inr rfl) (by decide))) (sgs_cons (by exact (sg_name (ws := [1, 2]) (i := 2) sc_is_policy.nd rfl (Or.inr rfl) (by decide))) sgs_nil))) (sg_unl rfl (sgs_cons (by exact (sg_name (ws := [1, 2]) (i := 1) sc_is_policy.nd rfl (Or.inr rfl) (by decide))) (sgs_cons (by exact (sg_name (ws := [1, 2]) (i := 2) sc_is_policy.nd rfl (Or.inr rfl) (by decide))) sgs_nil)))))) (by exact (ss_cons (by exact ss_if (by exact SW.st (sw_or (by exact st_not (by exact st_truth (by exact se_callB sc_isi (by rfl) (by exact T.n_isinstance) (by decide +kernel) (by exact (sa_cons (by exact sv_c 2) (sa_cons (by exact se_ty (by rfl) (by exact T.n_tuple) (by decide +kernel)) sa_nil)))))) (sw_or1 (by exact st_not (by exact st_chain so_le so_le (by exact se_int) (by exact se_callB sc_lenE (by rfl) (by exact T.n_len) (by decide +kernel) (by exact (sa_cons (by exact sv_c 2) sa_nil))) (by exact T.e_MOST_STATES rfl)))))) (by exact (ss_one (by exact ss_ret (by exact se_bl)))) (by exact ss_nil)) (by exact (ss_one (by exact ss_ret (by exact se_callB (sc_all rfl) (by rfl) (by exact T.n_all) (by decide +kernel) (by exact (sa_cons (by exact se_comp (own := [("row", 3)]) rfl sc_is_policy.nd (by exact (si_seq (by exact sv_c 2))) (blkOk_by (N := ["value", "lines", "rows", "row"]) (sc := defScope s_is_policy) (own := [("row", 3)]) (by decide +kernel)) (fun _ _ _ _ _ => (by exact (sg_name (ws := [3]) (i := 3) sc_is_policy.nd rfl (Or.inl rfl) (by decide)))) (fun _ _ _ _ _ => sts_nil) (fun _ _ _ _ _ => (by exact se_call (ps := ["value", "lines", "states"]) (by exact ok_is_row T) (by exact hr.mono (by decide)) (by exact hgd) (by rfl) (by exact T.m_is_row) (by exact T.F_is_row.kp) (by exact T.b_is_row) (by exact (sa_cons (by exact sv_l 3) (sa_cons (by exact sv_f 1) (sa_cons (by exact se_callB sc_lenE (by rfl) (by exact T.n_len) (by decide +kernel) (by exact (sa_cons (by exact sv_f 2) sa_nil))) sa_nil))))))) sa_nil)))))))))))
theorem ok_is_device (T : Top K mg) : FnG P w K mg base 5 T.f_is_device T.d_is_device ["value"] (spF K (T.ct P w) m_is_device 1) := fn_sim T.F_is_device sc_is_device fun cdv A outer s H E hr hgd =>
  (ss_cons (by exact ss_if (by exact SW.st (sw_or (by exact st_not (by exact st_truth (by exact se_callB sc_isi (by rfl) (by exact T.n_isinstance) (by decide +kernel) (by exact (sa_cons (by exact sv_l 0) (sa_cons (by exact se_ty (by rfl) (by exact T.n_tuple) (by decide +kernel)) sa_nil)))))) (sw_or (by exact st_cmp (by exact so_notinE (hu65 hr)) (by exact se_callB sc_lenE (by rfl) (by exact T.n_len) (by decide +kernel) (by exact (sa_cons (by exact sv_l 0) sa_nil))) (by exact se_tup (by exact (sa_cons (by exact se_int) (sa_cons (by exact se_int) sa_nil)))) (by rfl)) (sw_or1 (by exact st_not (by exact st_truth (by exact se_callB sc_isi (by rfl) (by exact T.n_isinstance) (by decide +kernel) (by exact (sa_cons (by exact se_ixE (hu65 hr) (by exact sv_l 0) (by exact se_int)) (sa_cons (by exact se_ty (by rfl) (by exact T.n_str) (by decide +kernel)) sa_nil)))))))))) (by exact (ss_one (by exact ss_ret (by exact se_bl)))) (by exact ss_nil)) (by exact (ss_cons (by exact ss_if (by exact SW.st (sw_or (by exact SW.st (sw_and (by exact st_cmp (by exact so_eq hr.units) (by exact se_callB sc_lenE (by rfl) (by exact T.n_len) (by decide +kernel) (by exact (sa_cons (by exact sv_l 0) sa_nil))) (by exact se_int) (nomark _)) (sw_and1 (by exact st_cmp (by exact so_ne hr.units) (by exact se_ixE (hu65 hr) (by exact sv_l 0) (by exact se_int)) (by exact se_str) (nomark _))))) (sw_or1 (by exact SW.st (sw_and (by exact st_cmp (by exact so_eq hr.units) (by exact se_callB sc_lenE (by rfl) (by exact T.n_len) (by decide +kernel) (by exact (sa_cons (by exact sv_l 0) sa_nil))) (by exact se_int) (nomark _)) (sw_and1 (by exact st_cmp (by exact so_notinE (hu65 hr)) (by exact se_ixE (hu65 hr) (by exact sv_l 0) (by exact se_int)) (by exact T.e_LEVELS rfl) (by rfl)))))))) (by exact (ss_one (by exact ss_ret (by exact se_bl)))) (by exact ss_nil)) (by exact (ss_one (by exact ss_ret (by exact se_callB (sc_all rfl) (by rfl) (by exact T.n_all) (by decide +kernel) (by exact (sa_cons (by exact se_comp (own := [("policy", 1)]) rfl sc_is_device.nd (by exact (si_seq (by exact se_slice (by exact sv_l 0) (by exact so_some (by exact se_int)) so_none))) (blkOk_by (N := ["value", "policy"]) (sc := defScope s_is_device) (own := [("policy", 1)]) (by decide +kernel)) (fun _ _ _ _ _ => (by exact (sg_name (ws := [1]) (i := 1) sc_is_device.nd rfl (Or.inl rfl) (by decide)))) (fun _ _ _ _ _ => sts_nil) (fun _ _ _ _ _ => (by exact se_call (ps := ["value"]) (by exact ok_is_policy T) (by exact hr.mono (by decide)) (by exact hgd) (by rfl) (by exact T.m_is_policy) (by exact T.F_is_policy.kp) (by exact T.b_is_policy) (by exact (sa_cons (by exact sv_l 1) sa_nil))))) sa_nil)))))))))
theorem ok_check_device (T : Top K mg) : FnG P w K mg base 6 T.f_check_device T.d_check_device ["device"] (spF K (T.ct P w) m_check_device 1) := fn_sim T.F_check_device sc_check_device fun cdv A outer s H E hr hgd =>
  (ss_one (by exact ss_if (by exact st_not (by exact st_truth (by exact se_call (ps := ["value"]) (by exact ok_is_device T) (by exact hr.mono (by decide)) (by exact hgd) (by rfl) (by exact T.m_is_device) (by exact T.F_is_device.kp) (by exact T.b_is_device) (by exact (sa_cons (by exact sv_l 0) sa_nil))))) (by exact (ss_one (by exact ss_never))) (by exact ss_nil)))
theorem ok_Cache_init (T : Top K mg) : FnG P w K mg base 7 T.f_Cache_init T.d_Cache_init ["self", "device"] (spF K (T.ct P w) m_Cache_init 2) := fn_sim T.F_Cache_init sc_Cache_init fun cdv A outer s H E hr hgd =>
  (ss_cons (by exact ss_expr (by exact se_call (ps := ["device"]) (by exact ok_check_device T) (by exact hr.mono (by decide)) (by exact hgd) (by rfl) (by exact T.m_check_device) (by exact T.F_check_device.kp) (by exact T.b_check_device) (by exact (sa_cons (by exact sv_l 1) sa_nil)))) (by exact (ss_cons (by exact ss_fld (C := T.C_Cache) (by exact sv_l 0) (by exact sv_l 1) rfl (by exact T.cl_Cache) (by exact T.na_Cache_pattern)) (by exact (ss_cons (by exact ss_fld (C := T.C_Cache) (by exact sv_l 0) (by exact se_make (ps := ["self", "device"]) (by exact T.mk_Box) rfl (by exact ok_Box_init T) (by exact hr.mono (by decide)) (by exact hgd) (by rfl) (by exact T.mC_Box) (by exact T.b_Box_init) (by exact (sa_cons (by exact sv_l 1) sa_nil))) rfl (by exact T.cl_Cache) (by exact T.na_Cache_box)) (by exact (ss_cons (by exact ss_fld (C := T.C_Cache) (by exact sv_l 0) (by exact se_int) rfl (by exact T.cl_Cache) (by exact T.na_Cache_hit_number)) (by exact (ss_one (by exact ss_fld (C := T.C_Cache) (by exact sv_l 0) (by exact se_int) rfl (by exact T.cl_Cache) (by exact T.na_Cache_miss_number)))))))))))
theorem ok_answers (T : Top K mg) : FnG P w K mg base 7 T.f_answers T.d_answers ["device", "names"] (spF K (T.ct P w) m_answers 2) := fn_sim T.F_answers sc_answers fun cdv A outer s H E hr hgd =>
  (ss_cons (by exact ss_expr (by exact se_call (ps := ["device"]) (by exact ok_check_device T) (by exact hr.mono (by decide)) (by exact hgd) (by rfl) (by exact T.m_check_device) (by exact T.F_check_device.kp) (by exact T.b_check_device) (by exact (sa_cons (by exact sv_l 0) sa_nil)))) (by exact (ss_cons (by exact ss_expr (by exact se_call (ps := ["names"]) (by exact ok_check_history T) (by exact hr.mono (by decide)) (by exact hgd) (by rfl) (by exact T.m_check_history) (by exact T.F_check_history.kp) (by exact T.b_check_history) (by exact (sa_cons (by exact sv_l 1) sa_nil)))) (by exact (ss_cons (by exact ss_set (i := 2) sc_answers.nd rfl (Or.inr rfl) (by exact se_make (ps := ["self", "device"]) (by exact T.mk_Box) rfl (by exact ok_Box_init T) (by exact hr.mono (by decide)) (by exact hgd) (by rfl) (by exact T.mC_Box) (by exact T.b_Box_init) (by exact (sa_cons (by exact sv_l 0) sa_nil)))) (by exact (ss_one (by exact ss_ret (by exact se_callTy sc_tuple (by rfl) (by exact T.n_tuple) (by decide +kernel) (by exact (sa_cons (by exact se_comp (own := [("name", 3)]) rfl sc_answers.nd (by exact (si_seq (by exact sv_l 1))) (blkOk_by (N := ["device", "names", "box", "name"]) (sc := defScope s_answers) (own := [("name", 3)]) (by decide +kernel)) (fun _ _ _ _ _ => (by exact (sg_name (ws := [3]) (i := 3) sc_answers.nd rfl (Or.inl rfl) (by decide)))) (fun _ _ _ _ _ => sts_nil) (fun _ _ _ _ _ => (by exact se_meth (ps := ["self", "name"]) (C := T.C_Box) (by exact sv_f 2) rfl (by exact T.cl_Box) (by exact T.me_Box_ask) (by exact ok_Box_ask T) (by exact hr.mono (by decide)) (by exact hgd) (by exact T.b_Box_ask) (by exact (sa_cons (by exact sv_l 3) sa_nil))))) sa_nil)))))))))))
theorem ok_count_misses (T : Top K mg) : FnG P w K mg base 8 T.f_count_misses T.d_count_misses ["device", "names"] (spF K (T.ct P w) m_count_misses 2) := fn_sim T.F_count_misses sc_count_misses fun cdv A outer s H E hr hgd =>
  (ss_one (by exact ss_ret (by exact se_or2 (se_bm PySem.F.plainAttrs_tuple PySem.F.slot_tuple_count PySem.F.type_tuple_count sm_tcount (by exact se_call (ps := ["device", "names"]) (by exact ok_answers T) (by exact hr.mono (by decide)) (by exact hgd) (by rfl) (by exact T.m_answers) (by exact T.F_answers.kp) (by exact T.b_answers) (by exact (sa_cons (by exact sv_l 0) (sa_cons (by exact sv_l 1) sa_nil)))) (by exact (sa_cons (by exact se_bl) sa_nil))) (se_bm PySem.F.plainAttrs_list PySem.F.slot_list_count PySem.F.type_list_count sm_lcount (by exact se_call (ps := ["device", "names"]) (by exact ok_answers T) (by exact hr.mono (by decide)) (by exact hgd) (by rfl) (by exact T.m_answers) (by exact T.F_answers.kp) (by exact T.b_answers) (by exact (sa_cons (by exact sv_l 0) (sa_cons (by exact sv_l 1) sa_nil)))) (by exact (sa_cons (by exact se_bl) sa_nil))))))
theorem ok_is_keeping (T : Top K mg) : FnG P w K mg base 5 T.f_is_keeping T.d_is_keeping ["names", "lines", "value"] (spF K (T.ct P w) m_is_keeping 3) := fn_sim T.F_is_keeping sc_is_keeping fun cdv A outer s H E hr hgd =>
  (ss_cons (by exact ss_expr (by exact se_call (ps := ["names", "lines"]) (by exact ok_check_asked T) (by exact hr.mono (by decide)) (by exact hgd) (by rfl) (by exact T.m_check_asked) (by exact T.F_check_asked.kp) (by exact T.b_check_asked) (by exact (sa_cons (by exact sv_l 0) (sa_cons (by exact sv_l 1) sa_nil))))) (by exact (ss_cons (by exact ss_if (by exact SW.st (sw_or (by exact st_not (by exact st_truth (by exact se_callB sc_isi (by rfl) (by exact T.n_isinstance) (by decide +kernel) (by exact (sa_cons (by exact sv_l 2) (sa_cons (by exact se_ty (by rfl) (by exact T.n_tuple) (by decide +kernel)) sa_nil)))))) (sw_or (by exact st_cmp (by exact so_ne hr.units) (by exact se_callB sc_lenE (by rfl) (by exact T.n_len) (by decide +kernel) (by exact (sa_cons (by exact sv_l 2) sa_nil))) (by exact se_callB sc_lenE (by rfl) (by exact T.n_len) (by decide +kernel) (by exact (sa_cons (by exact sv_l 0) sa_nil))) (nomark _)) (sw_or1 (by exact st_not (by exact st_truth (by exact se_callB (sc_all rfl) (by rfl) (by exact T.n_all) (by decide +kernel) (by exact (sa_cons (by exact se_comp (own := [("kept", 6)]) rfl sc_is_keeping.nd (by exact (si_seq (by exact sv_l 2))) (blkOk_by (N := ["names", "lines", "value", "nexts", "active", "time", "kept", "start"]) (sc := defScope s_is_keeping) (own := [("kept", 6)]) (by decide +kernel)) (fun _ _ _ _ _ => (by exact (sg_name (ws := [6]) (i := 6) sc_is_keeping.nd rfl (Or.inl rfl) (by decide)))) (fun _ _ _ _ _ => sts_nil) (fun _ _ _ _ _ => (by exact se_callB sc_isi (by rfl) (by exact T.n_isinstance) (by decide +kernel) (by exact (sa_cons (by exact sv_l 6) (sa_cons (by exact se_ty (by rfl) (by exact T.n_bool) (by decide +kernel)) sa_nil)))))) sa_nil))))))))) (by exact (ss_one (by exact ss_ret (by exact se_bl)))) (by exact ss_nil)) (by exact (ss_cons (by exact ss_asg (by exact se_tup (by exact (sa_cons (by exact se_call (ps := ["names"]) (by exact ok_next_requests T) (by exact hr.mono (by decide)) (by exact hgd) (by rfl) (by exact T.m_next_requests) (by exact T.F_next_requests.kp) (by exact T.b_next_requests) (by exact (sa_cons (by exact sv_l 0) sa_nil))) (sa_cons (by exact se_lst (by exact sa_nil)) sa_nil)))) (by exact (sg_or2 (sg_tup rfl (sgs_cons (by exact (sg_name (ws := [3, 4]) (i := 3) sc_is_keeping.nd rfl (Or.inr rfl) (by decide))) (sgs_cons (by exact (sg_name (ws := [3, 4]) (i := 4) sc_is_keeping.nd rfl (Or.inl rfl) (by decide))) sgs_nil))) (sg_unl rfl (sgs_cons (by exact (sg_name (ws := [3, 4]) (i := 3) sc_is_keeping.nd rfl (Or.inr rfl) (by decide))) (sgs_cons (by exact (sg_name (ws := [3, 4]) (i := 4) sc_is_keeping.nd rfl (Or.inl rfl) (by decide))) sgs_nil)))))) (by exact (ss_cons (by exact ss_for PassesOwn.never rfl (by exact (si_enum rfl (by exact T.n_enumerate) (by exact sv_l 2))) (by exact (sg_or2 (sg_tup rfl (sgs_cons (by exact (sg_name (ws := [5, 6]) (i := 5) sc_is_keeping.nd rfl (Or.inr rfl) (by decide))) (sgs_cons (by exact (sg_name (ws := [5, 6]) (i := 6) sc_is_keeping.nd rfl (Or.inl rfl) (by decide))) sgs_nil))) (sg_unl rfl (sgs_cons (by exact (sg_name (ws := [5, 6]) (i := 5) sc_is_keeping.nd rfl (Or.inr rfl) (by decide))) (sgs_cons (by exact (sg_name (ws := [5, 6]) (i := 6) sc_is_keeping.nd rfl (Or.inl rfl) (by decide))) sgs_nil))))) (by exact (ss_cons (by exact ss_setLc (i := 4) (own := [("start", 7)]) rfl sc_is_keeping.nd rfl rfl (sw_true rfl rfl rfl (by decide +kernel)) (by exact (si_seq (by exact sv_l 4))) (blkOk_by (N := ["names", "lines", "value", "nexts", "active", "time", "kept", "start"]) (sc := defScope s_is_keeping) (own := [("start", 7)]) (by decide +kernel)) (fun _ _ _ _ _ => (by exact (sg_name (ws := [7]) (i := 7) sc_is_keeping.nd rfl (Or.inl rfl) (by decide)))) (fun _ _ _ _ _ => (sts_one (by exact st_cmp so_gt (by exact se_ixE (hu65 hr) (by exact sv_f 3) (by exact sv_l 7)) (by exact sv_f 5) (nomark _)))) (fun _ _ _ _ _ => (by exact sv_l 7))) (by exact (ss_cons (by exact ss_if (by exact SW.st (sw_or (by exact st_cmp so_ge (by exact se_callB sc_lenE (by rfl) (by exact T.n_len) (by decide +kernel) (by exact (sa_cons (by exact sv_l 4) sa_nil))) (by exact sv_l 1) (nomark _)) (sw_or1 (by exact SW.st (sw_and (by exact st_truth (by exact sv_l 6)) (sw_and1 (by exact st_cmp so_isE (by exact se_ixE (hu65 hr) (by exact sv_c 3) (by exact sv_c 5)) (by exact se_non) (nomark _)))))))) (by exact (ss_one (by exact ss_ret (by exact se_bl)))) (by exact ss_nil)) (by exact (ss_one (by exact ss_if (by exact st_truth (by exact sv_l 6)) (by exact (ss_one (by exact ss_expr (by exact (se_bm PySem.F.plainAttrs_list PySem.F.slot_list_append PySem.F.type_list_append sm_append (by exact sv_l 4) (by exact (sa_cons (by exact sv_c 5) sa_nil))))))) (by exact ss_nil))))))))) (by exact (ss_one (by exact ss_ret (by exact se_bl)))))))))))
theorem ok__law_later (T : Top K mg) : FnG P w K mg base 1 T.f__law_later T.d__law_later ["_law_row_here"] (spF K (T.ct P w) m__law_later 1) := fn_sim T.F__law_later sc__law_later fun cdv A outer s H E hr hgd =>
  (ss_cons (by exact ss_set (i := 1) sc__law_later.nd rfl (Or.inl rfl) (by exact se_lst (by exact sa_nil))) (by exact (ss_cons (by exact ss_for PassesOwn.never rfl (by exact (si_range1 rfl (by exact T.n_range) (by exact se_callB sc_lenE (by rfl) (by exact T.n_len) (by decide +kernel) (by exact (sa_cons (by exact sv_c 0) sa_nil))))) (by exact (sg_name (ws := [2]) (i := 2) sc__law_later.nd rfl (Or.inr rfl) (by decide))) (by exact (ss_cons (by exact ss_setLc (i := 3) (own := [("_law_spot", 4)]) rfl sc__law_later.nd rfl rfl (sw_true rfl rfl rfl (by decide +kernel)) (by exact (si_range2 rfl (by exact T.n_range) (by exact se_op so_add (by exact sv_c 2) (by exact se_int)) (by exact se_callB sc_lenE (by rfl) (by exact T.n_len) (by decide +kernel) (by exact (sa_cons (by exact sv_c 0) sa_nil))))) (blkOk_by (N := ["_law_row_here", "_law_found", "_law_at", "_law_rest", "_law_spot"]) (sc := defScope s__law_later) (own := [("_law_spot", 4)]) (by decide +kernel)) (fun _ _ _ _ _ => (by exact (sg_name (ws := [4]) (i := 4) sc__law_later.nd rfl (Or.inl rfl) (by decide)))) (fun _ _ _ _ _ => (sts_one (by exact st_cmp (by exact so_eq hr.units) (by exact se_ixE (hu65 hr) (by exact sv_f 0) (by exact sv_l 4)) (by exact se_ixE (hu65 hr) (by exact sv_f 0) (by exact sv_f 2)) (nomark _)))) (fun _ _ _ _ _ => (by exact sv_l 4))) (by exact (ss_one (by exact ss_expr (by exact (se_bm PySem.F.plainAttrs_list PySem.F.slot_list_append PySem.F.type_list_append sm_append (by exact sv_l 1) (by exact (sa_cons (by exact se_ixE (hu65 hr) (by exact se_op so_add (by exact sv_l 3) (by exact se_lst (by exact (sa_cons (by exact se_non) sa_nil)))) (by exact se_int)) sa_nil)))))))))) (by exact (ss_one (by exact ss_ret (by exact sv_l 1)))))))
theorem ok_count_lines (T : Top K mg) : FnG P w K mg base 7 T.f_count_lines T.d_count_lines ["device"] (spF K (T.ct P w) m_count_lines 1) := fn_sim T.F_count_lines sc_count_lines fun cdv A outer s H E hr hgd =>
  (ss_cons (by exact ss_expr (by exact se_call (ps := ["device"]) (by exact ok_check_device T) (by exact hr.mono (by decide)) (by exact hgd) (by rfl) (by exact T.m_check_device) (by exact T.F_check_device.kp) (by exact T.b_check_device) (by exact (sa_cons (by exact sv_l 0) sa_nil)))) (by exact (ss_one (by exact ss_ret (by exact se_callB (sc_sum rfl) (by rfl) (by exact T.n_sum) (by decide +kernel) (by exact (sa_cons (by exact se_comp (own := [("policy", 1)]) rfl sc_count_lines.nd (by exact (si_seq (by exact se_slice (by exact sv_l 0) (by exact so_some (by exact se_int)) so_none))) (blkOk_by (N := ["device", "policy"]) (sc := defScope s_count_lines) (own := [("policy", 1)]) (by decide +kernel)) (fun _ _ _ _ _ => (by exact (sg_name (ws := [1]) (i := 1) sc_count_lines.nd rfl (Or.inl rfl) (by decide)))) (fun _ _ _ _ _ => sts_nil) (fun _ _ _ _ _ => (by exact se_ixE (hu65 hr) (by exact sv_l 1) (by exact se_int)))) sa_nil)))))))
theorem ok__law_device_right (T : Top K mg) : FnG P w K mg base 9 T.f__law_device_right T.d__law_device_right ["_law_unit", "_law_row_here"] (spF K (T.ct P w) m__law_device_right 2) := fn_sim T.F__law_device_right sc__law_device_right fun cdv A outer s H E hr hgd =>
  (ss_cons (by exact ss_asg (by exact se_tup (by exact (sa_cons (by exact se_call (ps := ["device"]) (by exact ok_count_lines T) (by exact hr.mono (by decide)) (by exact hgd) (by rfl) (by exact T.m_count_lines) (by exact T.F_count_lines.kp) (by exact T.b_count_lines) (by exact (sa_cons (by exact sv_l 0) sa_nil))) (sa_cons (by exact se_call (ps := ["device", "names"]) (by exact ok_answers T) (by exact hr.mono (by decide)) (by exact hgd) (by rfl) (by exact T.m_answers) (by exact T.F_answers.kp) (by exact T.b_answers) (by exact (sa_cons (by exact sv_l 0) (sa_cons (by exact sv_l 1) sa_nil)))) sa_nil)))) (by exact (sg_or2 (sg_tup rfl (sgs_cons (by exact (sg_name (ws := [2, 3]) (i := 2) sc__law_device_right.nd rfl (Or.inl rfl) (by decide))) (sgs_cons (by exact (sg_name (ws := [2, 3]) (i := 3) sc__law_device_right.nd rfl (Or.inr rfl) (by decide))) sgs_nil))) (sg_unl rfl (sgs_cons (by exact (sg_name (ws := [2, 3]) (i := 2) sc__law_device_right.nd rfl (Or.inl rfl) (by decide))) (sgs_cons (by exact (sg_name (ws := [2, 3]) (i := 3) sc__law_device_right.nd rfl (Or.inr rfl) (by decide))) sgs_nil)))))) (by exact (ss_cons (by exact ss_set (i := 4) sc__law_device_right.nd rfl (Or.inl rfl) (by exact se_call (ps := ["_law_row_here"]) (by exact ok__law_later T) (by exact hr.mono (by decide)) (by exact hgd) (by rfl) (by exact T.m__law_later) (by exact T.F__law_later.kp) (by exact T.b__law_later) (by exact (sa_cons (by exact sv_l 1) sa_nil)))) (by exact (ss_cons (by exact ss_set (i := 5) sc__law_device_right.nd rfl (Or.inl rfl) (by exact se_callTy sc_tuple (by rfl) (by exact T.n_tuple) (by decide +kernel) (by exact (sa_cons (by exact se_comp (own := [("_law_goal", 7)]) rfl sc__law_device_right.nd (by exact (si_seq (by exact sv_l 4))) (blkOk_by (N := ["_law_unit", "_law_row_here", "_law_many", "_law_told", "_law_goals", "_law_kept", "_law_box", "_law_goal", "_law_who"]) (sc := defScope s__law_device_right) (own := [("_law_goal", 7)]) (by decide +kernel)) (fun _ _ _ _ _ => (by exact (sg_name (ws := [7]) (i := 7) sc__law_device_right.nd rfl (Or.inl rfl) (by decide)))) (fun _ _ _ _ _ => sts_nil) (fun _ _ _ _ _ => (by exact (se_and (by exact se_cmp so_isnotE (by exact sv_l 7) (by exact se_non) (nomark _)) (se_one (by exact se_ixE (hu65 hr) (by exact sv_f 3) (by exact sv_l 7))))))) sa_nil)))) (by exact (ss_cons (by exact ss_if (by exact SW.st (sw_or (by exact st_not (by exact st_truth (by exact se_call (ps := ["value"]) (by exact ok_is_device T) (by exact hr.mono (by decide)) (by exact hgd) (by rfl) (by exact T.m_is_device) (by exact T.F_is_device.kp) (by exact T.b_is_device) (by exact (sa_cons (by exact sv_l 0) sa_nil))))) (sw_or1 (by exact st_cmp so_isnotE (by exact se_call (ps := ["names", "lines", "value"]) (by exact ok_is_keeping T) (by exact hr.mono (by decide)) (by exact hgd) (by rfl) (by exact T.m_is_keeping) (by exact T.F_is_keeping.kp) (by exact T.b_is_keeping) (by exact (sa_cons (by exact sv_l 1) (sa_cons (by exact sv_l 2) (sa_cons (by exact sv_l 5) sa_nil))))) (by exact se_bl) (nomark _))))) (by exact (ss_one (by exact ss_ret (by exact se_bl)))) (by exact ss_nil)) (by exact (ss_cons (by exact ss_if (by exact SW.st (sw_or (by exact st_cmp (by exact so_ne hr.units) (by exact se_call (ps := ["device", "names"]) (by exact ok_count_misses T) (by exact hr.mono (by decide)) (by exact hgd) (by rfl) (by exact T.m_count_misses) (by exact T.F_count_misses.kp) (by exact T.b_count_misses) (by exact (sa_cons (by exact sv_l 0) (sa_cons (by exact sv_l 1) sa_nil)))) (by exact se_op so_sub (by exact se_callB sc_lenE (by rfl) (by exact T.n_len) (by decide +kernel) (by exact (sa_cons (by exact sv_l 1) sa_nil))) (by exact se_or2 (se_bm PySem.F.plainAttrs_tuple PySem.F.slot_tuple_count PySem.F.type_tuple_count sm_tcount (by exact sv_l 5) (by exact (sa_cons (by exact se_bl) sa_nil))) (se_bm PySem.F.plainAttrs_list PySem.F.slot_list_count PySem.F.type_list_count sm_lcount (by exact sv_l 5) (by exact (sa_cons (by exact se_bl) sa_nil))))) (nomark _)) (sw_or1 (by exact st_cmp so_lt (by exact se_call (ps := ["device", "names"]) (by exact ok_count_misses T) (by exact hr.mono (by decide)) (by exact hgd) (by rfl) (by exact T.m_count_misses) (by exact T.F_count_misses.kp) (by exact T.b_count_misses) (by exact (sa_cons (by exact sv_l 0) (sa_cons (by exact sv_l 1) sa_nil)))) (by exact se_call (ps := ["names", "lines"]) (by exact ok_least_misses T) (by exact hr.mono (by decide)) (by exact hgd) (by rfl) (by exact T.m_least_misses) (by exact T.F_least_misses.kp) (by exact T.b_least_misses) (by exact (sa_cons (by exact sv_l 1) (sa_cons (by exact sv_l 2) sa_nil)))) (nomark _))))) (by exact (ss_one (by exact ss_ret (by exact se_bl)))) (by exact ss_nil)) (by exact (ss_cons (by exact ss_set (i := 6) sc__law_device_right.nd rfl (Or.inr rfl) (by exact se_make (ps := ["self", "device"]) (by exact T.mk_Cache) rfl (by exact ok_Cache_init T) (by exact hr.mono (by decide)) (by exact hgd) (by rfl) (by exact T.mC_Cache) (by exact T.b_Cache_init) (by exact (sa_cons (by exact sv_l 0) sa_nil)))) (by exact (ss_one (by exact ss_ret (by exact (se_and (by exact se_cmp (by exact so_eq hr.units) (by exact se_comp (own := [("_law_who", 8)]) rfl sc__law_device_right.nd (by exact (si_seq (by exact sv_l 1))) (blkOk_by (N := ["_law_unit", "_law_row_here", "_law_many", "_law_told", "_law_goals", "_law_kept", "_law_box", "_law_goal", "_law_who"]) (sc := defScope s__law_device_right) (own := [("_law_who", 8)]) (by decide +kernel)) (fun _ _ _ _ _ => (by exact (sg_name (ws := [8]) (i := 8) sc__law_device_right.nd rfl (Or.inl rfl) (by decide)))) (fun _ _ _ _ _ => sts_nil) (fun _ _ _ _ _ => (by exact se_meth (ps := ["self", "name"]) (C := T.C_Cache) (by exact sv_f 6) rfl (by exact T.cl_Cache) (by exact T.me_Cache_request) (by exact ok_Cache_request T) (by exact hr.mono (by decide)) (by exact hgd) (by exact T.b_Cache_request) (by exact (sa_cons (by exact sv_l 8) sa_nil))))) (by exact se_callTy (sc_listE rfl) (by rfl) (by exact T.n_list) (by decide +kernel) (by exact (sa_cons (by exact sv_c 3) sa_nil))) (nomark _)) (se_one (by exact se_cmp so_ge (by exact se_prop (ps := ["self"]) (C := T.C_Cache) (by exact sv_c 6) rfl (by exact T.cl_Cache) (by exact T.pr_Cache_misses) (by exact ok_Cache_misses T) (by exact hr.mono (by decide)) (by exact hgd) (by exact T.b_Cache_misses)) (by exact se_call (ps := ["names", "lines"]) (by exact ok_least_misses T) (by exact hr.mono (by decide)) (by exact hgd) (by rfl) (by exact T.m_least_misses) (by exact T.F_least_misses.kp) (by exact T.b_least_misses) (by exact (sa_cons (by exact sv_l 1) (sa_cons (by exact sv_l 2) sa_nil)))) (nomark _)))))))))))))))))))
theorem ok__law_draw (T : Top K mg) : FnG P w K mg base 1 T.f__law_draw T.d__law_draw ["_law_pool_here", "_law_most"] (spF K (T.ct P w) m__law_draw 2) := fn_sim T.F__law_draw sc__law_draw fun cdv A outer s H E hr hgd =>
  (ss_cons (by exact ss_asg (by exact se_op so_add (by exact se_ixE (hu65 hr) (by exact sv_l 0) (by exact se_int)) (by exact se_int)) (by exact (sg_subE (ws := []) (hu65 hr) (by exact sv_l 0) (by exact se_int)))) (by exact (ss_cons (by exact ss_set (i := 2) sc__law_draw.nd rfl (Or.inl rfl) (by exact se_callTy sc_int (by rfl) (by exact T.n_int) (by decide +kernel) (by exact (sa_cons (by exact se_ixE (hu65 hr) (by exact sv_l 0) (by exact se_int)) sa_nil)))) (by exact (ss_cons (by exact ss_asg (by exact se_op so_mod (by exact se_op so_add (by exact se_op so_mul (by exact sv_l 2) (by exact se_op so_add (by exact se_op so_mod (by exact sv_l 2) (by exact se_int)) (by exact se_int))) (by exact se_op so_mul (by exact se_int) (by exact se_ixE (hu65 hr) (by exact sv_l 0) (by exact se_int)))) (by exact se_int)) (by exact (sg_subE (ws := []) (hu65 hr) (by exact sv_l 0) (by exact se_int)))) (by exact (ss_cons (by exact ss_if (by exact st_cmp so_gt (by exact se_ixE (hu65 hr) (by exact sv_l 0) (by exact se_int)) (by exact se_int) (nomark _)) (by exact (ss_cons (by exact ss_asg (by exact se_callB sc_divmod (by rfl) (by exact T.n_divmod) (by decide +kernel) (by exact (sa_cons (by exact se_ixE (hu65 hr) (by exact sv_l 0) (by exact se_int)) (sa_cons (by exact sv_l 1) sa_nil)))) (by exact (sg_or2 (sg_tup rfl (sgs_cons (by exact (sg_subE (ws := [3]) (hu65 hr) (by exact sv_l 0) (by exact se_int))) (sgs_cons (by exact (sg_name (ws := [3]) (i := 3) sc__law_draw.nd rfl (Or.inl rfl) (by decide))) sgs_nil))) (sg_unl rfl (sgs_cons (by exact (sg_subE (ws := [3]) (hu65 hr) (by exact sv_l 0) (by exact se_int))) (sgs_cons (by exact (sg_name (ws := [3]) (i := 3) sc__law_draw.nd rfl (Or.inl rfl) (by decide))) sgs_nil)))))) (by exact (ss_one (by exact ss_ret (by exact sv_l 3)))))) (by exact ss_nil)) (by exact (ss_one (by exact ss_ret (by exact se_op so_mod (by exact se_op so_fdiv (by exact se_ixE (hu65 hr) (by exact sv_l 0) (by exact se_int)) (by exact se_int)) (by exact sv_l 1))))))))))))
theorem ok__law_row_right (T : Top K mg) : FnG P w K mg base 7 T.f__law_row_right T.d__law_row_right ["_law_pool_here", "_law_row_here"] (spF K (T.ct P w) m__law_row_right 2) := fn_sim T.F__law_row_right sc__law_row_right fun cdv A outer s H E hr hgd =>
  (ss_cons (by exact ss_set (i := 2) sc__law_row_right.nd rfl (Or.inr rfl) (by exact se_comp (own := [("_law_many", 4)]) rfl sc__law_row_right.nd (by exact (si_range2 rfl (by exact T.n_range) (by exact se_int) (by exact se_int))) (blkOk_by (N := ["_law_pool_here", "_law_row_here", "_law_told", "_law_at", "_law_many", "_law_first", "_law_second"]) (sc := defScope s__law_row_right) (own := [("_law_many", 4)]) (by decide +kernel)) (fun _ _ _ _ _ => (by exact (sg_name (ws := [4]) (i := 4) sc__law_row_right.nd rfl (Or.inl rfl) (by decide)))) (fun _ _ _ _ _ => sts_nil) (fun _ _ _ _ _ => (by exact se_call (ps := ["names", "lines"]) (by exact ok_least_misses T) (by exact hr.mono (by decide)) (by exact hgd) (by rfl) (by exact T.m_least_misses) (by exact T.F_least_misses.kp) (by exact T.b_least_misses) (by exact (sa_cons (by exact sv_f 1) (sa_cons (by exact sv_l 4) sa_nil))))))) (by exact (ss_cons (by exact ss_if (by exact SW.st (sw_or (by exact st_cmp (by exact so_ne hr.units) (by exact sv_c 2) (by exact se_sortR (by rfl) (by exact T.n_sorted) (by exact sv_c 2)) (nomark _)) (sw_or1 (by exact SW.st (sw_and (by exact st_cmp (by exact so_ne hr.units) (by exact sv_c 2) (by exact se_lst (by exact sa_nil)) (nomark _)) (sw_and1 (by exact st_cmp so_lt (by exact se_ixE (hu65 hr) (by exact sv_c 2) (by exact se_un su_neg (by exact se_int))) (by exact se_callB sc_lenE (by rfl) (by exact T.n_len) (by decide +kernel) (by exact (sa_cons (by exact se_callTy (sc_setE rfl) (by rfl) (by exact T.n_set) (by decide +kernel) (by exact (sa_cons (by exact sv_c 1) sa_nil))) sa_nil))) (nomark _)))))))) (by exact (ss_one (by exact ss_ret (by exact se_bl)))) (by exact ss_nil)) (by exact (ss_cons (by exact ss_if (by exact st_cmp (by exact so_ne hr.units) (by exact se_ixE (hu65 hr) (by exact sv_c 2) (by exact se_int)) (by exact se_callB sc_lenE (by rfl) (by exact T.n_len) (by decide +kernel) (by exact (sa_cons (by exact se_comp (own := [("_law_at", 3)]) rfl sc__law_row_right.nd (by exact (si_range1 rfl (by exact T.n_range) (by exact se_callB sc_lenE (by rfl) (by exact T.n_len) (by decide +kernel) (by exact (sa_cons (by exact sv_c 1) sa_nil))))) (blkOk_by (N := ["_law_pool_here", "_law_row_here", "_law_told", "_law_at", "_law_many", "_law_first", "_law_second"]) (sc := defScope s__law_row_right) (own := [("_law_at", 3)]) (by decide +kernel)) (fun _ _ _ _ _ => (by exact (sg_name (ws := [3]) (i := 3) sc__law_row_right.nd rfl (Or.inl rfl) (by decide)))) (fun _ _ _ _ _ => (sts_one (by exact st_cmp (by exact so_ne hr.units) (by exact se_slice (by exact se_slice (by exact sv_f 1) so_none (by exact so_some (by exact sv_l 3))) (by exact so_some (by exact se_un su_neg (by exact se_int))) so_none) (by exact se_slice (by exact sv_f 1) (by exact so_some (by exact sv_l 3)) (by exact so_some (by exact se_op so_add (by exact sv_l 3) (by exact se_int)))) (nomark _)))) (fun _ _ _ _ _ => (by exact sv_l 3))) sa_nil))) (nomark _)) (by exact (ss_one (by exact ss_ret (by exact se_bl)))) (by exact ss_nil)) (by exact (ss_cons (by exact ss_if (by exact st_cmp (by exact so_ne hr.units) (by exact se_comp (own := [("_law_many", 4)]) rfl sc__law_row_right.nd (by exact (si_range2 rfl (by exact T.n_range) (by exact se_callB sc_lenE (by rfl) (by exact T.n_len) (by decide +kernel) (by exact (sa_cons (by exact se_callTy (sc_setE rfl) (by rfl) (by exact T.n_set) (by decide +kernel) (by exact (sa_cons (by exact sv_c 1) sa_nil))) sa_nil))) (by exact se_int))) (blkOk_by (N := ["_law_pool_here", "_law_row_here", "_law_told", "_law_at", "_law_many", "_law_first", "_law_second"]) (sc := defScope s__law_row_right) (own := [("_law_many", 4)]) (by decide +kernel)) (fun _ _ _ _ _ => (by exact (sg_name (ws := [4]) (i := 4) sc__law_row_right.nd rfl (Or.inl rfl) (by decide)))) (fun _ _ _ _ _ => (sts_one (by exact SW.st (sw_and (by exact st_cmp so_gt (by exact sv_l 4) (by exact se_int) (nomark _)) (sw_and1 (by exact st_cmp (by exact so_ne hr.units) (by exact se_ixE (hu65 hr) (by exact sv_f 2) (by exact se_op so_sub (by exact sv_l 4) (by exact se_int))) (by exact se_callB sc_lenE (by rfl) (by exact T.n_len) (by decide +kernel) (by exact (sa_cons (by exact se_callTy (sc_setE rfl) (by rfl) (by exact T.n_set) (by decide +kernel) (by exact (sa_cons (by exact sv_f 1) sa_nil))) sa_nil))) (nomark _))))))) (fun _ _ _ _ _ => (by exact sv_l 4))) (by exact se_lst (by exact sa_nil)) (nomark _)) (by exact (ss_one (by exact ss_ret (by exact se_bl)))) (by exact ss_nil)) (by exact (ss_cons (by exact ss_par (i := 3) (j := 4) rfl sc__law_row_right.nd rfl rfl (by decide) rfl rfl (by exact (sa_cons (by exact se_call (ps := ["_law_pool_here", "_law_most"]) (by exact ok__law_draw T) (by exact hr.mono (by decide)) (by exact hgd) (by rfl) (by exact T.m__law_draw) (by exact T.F__law_draw.kp) (by exact T.b__law_draw) (by exact (sa_cons (by exact sv_l 0) (sa_cons (by exact se_op so_add (by exact se_callB sc_lenE (by rfl) (by exact T.n_len) (by decide +kernel) (by exact (sa_cons (by exact sv_c 1) sa_nil))) (by exact se_int)) sa_nil)))) (sa_cons (by exact se_op so_add (by exact se_int) (by exact se_call (ps := ["_law_pool_here", "_law_most"]) (by exact ok__law_draw T) (by exact hr.mono (by decide)) (by exact hgd) (by rfl) (by exact T.m__law_draw) (by exact T.F__law_draw.kp) (by exact T.b__law_draw) (by exact (sa_cons (by exact sv_l 0) (sa_cons (by exact se_int) sa_nil))))) sa_nil))) (by rfl)) (by exact (ss_cons (by exact ss_par (i := 5) (j := 6) rfl sc__law_row_right.nd rfl rfl (by decide) rfl rfl (by exact (sa_cons (by exact se_call (ps := ["names", "lines"]) (by exact ok_least_misses T) (by exact hr.mono (by decide)) (by exact hgd) (by rfl) (by exact T.m_least_misses) (by exact T.F_least_misses.kp) (by exact T.b_least_misses) (by exact (sa_cons (by exact se_slice (by exact sv_c 1) so_none (by exact so_some (by exact sv_l 3))) (sa_cons (by exact sv_l 4) sa_nil)))) (sa_cons (by exact se_call (ps := ["names", "lines"]) (by exact ok_least_misses T) (by exact hr.mono (by decide)) (by exact hgd) (by rfl) (by exact T.m_least_misses) (by exact T.F_least_misses.kp) (by exact T.b_least_misses) (by exact (sa_cons (by exact se_slice (by exact sv_c 1) (by exact so_some (by exact sv_l 3)) so_none) (sa_cons (by exact sv_l 4) sa_nil)))) sa_nil))) (by rfl)) (by exact (ss_cons (by exact ss_if (by exact SW.st (sw_or (by exact st_cmp so_gt (by exact sv_l 5) (by exact se_ixE (hu65 hr) (by exact sv_c 2) (by exact se_op so_sub (by exact sv_l 4) (by exact se_int))) (nomark _)) (sw_or (by exact st_cmp so_gt (by exact se_ixE (hu65 hr) (by exact sv_c 2) (by exact se_op so_sub (by exact sv_l 4) (by exact se_int))) (by exact se_op so_add (by exact sv_l 5) (by exact sv_l 6)) (nomark _)) (sw_or1 (by exact st_cmp so_gt (by exact sv_l 6) (by exact se_op so_add (by exact se_ixE (hu65 hr) (by exact sv_c 2) (by exact se_op so_sub (by exact sv_l 4) (by exact se_int))) (by exact sv_l 4)) (nomark _)))))) (by exact (ss_one (by exact ss_ret (by exact se_bl)))) (by exact ss_nil)) (by exact (ss_one (by exact ss_ret (by exact se_cmp (by exact so_eq hr.units) (by exact se_or2 (se_bm PySem.F.plainAttrs_tuple PySem.F.slot_tuple_count PySem.F.type_tuple_count sm_tcount (by exact se_call (ps := ["names", "lines"]) (by exact ok_best_keeping T) (by exact hr.mono (by decide)) (by exact hgd) (by rfl) (by exact T.m_best_keeping) (by exact T.F_best_keeping.kp) (by exact T.b_best_keeping) (by exact (sa_cons (by exact sv_c 1) (sa_cons (by exact sv_l 4) sa_nil)))) (by exact (sa_cons (by exact se_bl) sa_nil))) (se_bm PySem.F.plainAttrs_list PySem.F.slot_list_count PySem.F.type_list_count sm_lcount (by exact se_call (ps := ["names", "lines"]) (by exact ok_best_keeping T) (by exact hr.mono (by decide)) (by exact hgd) (by rfl) (by exact T.m_best_keeping) (by exact T.F_best_keeping.kp) (by exact T.b_best_keeping) (by exact (sa_cons (by exact sv_c 1) (sa_cons (by exact sv_l 4) sa_nil)))) (by exact (sa_cons (by exact se_bl) sa_nil)))) (by exact se_op so_sub (by exact se_callB sc_lenE (by rfl) (by exact T.n_len) (by decide +kernel) (by exact (sa_cons (by exact sv_c 1) sa_nil))) (by exact se_ixE (hu65 hr) (by exact sv_c 2) (by exact se_op so_sub (by exact sv_l 4) (by exact se_int)))) (nomark _))))))))))))))))))
theorem ok__law_row (T : Top K mg) : FnG P w K mg base 2 T.f__law_row T.d__law_row ["_law_pool_here", "_law_many", "_law_most"] (spF K (T.ct P w) m__law_row 3) := fn_sim T.F__law_row sc__law_row fun cdv A outer s H E hr hgd =>
  (ss_cons (by exact ss_asg (by exact se_tup (by exact (sa_cons (by exact se_call (ps := ["_law_pool_here", "_law_most"]) (by exact ok__law_draw T) (by exact hr.mono (by decide)) (by exact hgd) (by rfl) (by exact T.m__law_draw) (by exact T.F__law_draw.kp) (by exact T.b__law_draw) (by exact (sa_cons (by exact sv_c 0) (sa_cons (by exact se_op so_add (by exact sv_l 1) (by exact se_int)) sa_nil)))) (sa_cons (by exact se_op so_add (by exact se_int) (by exact se_call (ps := ["_law_pool_here", "_law_most"]) (by exact ok__law_draw T) (by exact hr.mono (by decide)) (by exact hgd) (by rfl) (by exact T.m__law_draw) (by exact T.F__law_draw.kp) (by exact T.b__law_draw) (by exact (sa_cons (by exact sv_c 0) (sa_cons (by exact sv_l 2) sa_nil))))) sa_nil)))) (by exact (sg_or2 (sg_tup rfl (sgs_cons (by exact (sg_name (ws := [3, 4]) (i := 3) sc__law_row.nd rfl (Or.inl rfl) (by decide))) (sgs_cons (by exact (sg_name (ws := [3, 4]) (i := 4) sc__law_row.nd rfl (Or.inr rfl) (by decide))) sgs_nil))) (sg_unl rfl (sgs_cons (by exact (sg_name (ws := [3, 4]) (i := 3) sc__law_row.nd rfl (Or.inl rfl) (by decide))) (sgs_cons (by exact (sg_name (ws := [3, 4]) (i := 4) sc__law_row.nd rfl (Or.inr rfl) (by decide))) sgs_nil)))))) (by exact (ss_cons (by exact ss_if (by exact st_cmp (by exact so_eq hr.units) (by exact se_call (ps := ["_law_pool_here", "_law_most"]) (by exact ok__law_draw T) (by exact hr.mono (by decide)) (by exact hgd) (by rfl) (by exact T.m__law_draw) (by exact T.F__law_draw.kp) (by exact T.b__law_draw) (by exact (sa_cons (by exact sv_c 0) (sa_cons (by exact se_int) sa_nil)))) (by exact se_int) (nomark _)) (by exact (ss_one (by exact ss_ret (by exact se_callTy sc_tuple (by rfl) (by exact T.n_tuple) (by decide +kernel) (by exact (sa_cons (by exact se_comp (own := [("_law_at", 5)]) rfl sc__law_row.nd (by exact (si_range1 rfl (by exact T.n_range) (by exact sv_l 3))) (blkOk_by (N := ["_law_pool_here", "_law_many", "_law_most", "_law_count", "_law_who", "_law_at"]) (sc := defScope s__law_row) (own := [("_law_at", 5)]) (by decide +kernel)) (fun _ _ _ _ _ => (by exact (sg_name (ws := [5]) (i := 5) sc__law_row.nd rfl (Or.inl rfl) (by decide)))) (fun _ _ _ _ _ => sts_nil) (fun _ _ _ _ _ => (by exact se_ixE (hu65 hr) (by exact se_str) (by exact se_op so_mod (by exact sv_l 5) (by exact sv_f 4))))) sa_nil)))))) (by exact ss_nil)) (by exact (ss_one (by exact ss_ret (by exact se_callTy sc_tuple (by rfl) (by exact T.n_tuple) (by decide +kernel) (by exact (sa_cons (by exact se_comp (own := [("_law_at", 5)]) rfl sc__law_row.nd (by exact (si_range1 rfl (by exact T.n_range) (by exact sv_l 3))) (blkOk_by (N := ["_law_pool_here", "_law_many", "_law_most", "_law_count", "_law_who", "_law_at"]) (sc := defScope s__law_row) (own := [("_law_at", 5)]) (by decide +kernel)) (fun _ _ _ _ _ => (by exact (sg_name (ws := [5]) (i := 5) sc__law_row.nd rfl (Or.inl rfl) (by decide)))) (fun _ _ _ _ _ => sts_nil) (fun _ _ _ _ _ => (by exact se_ixE (hu65 hr) (by exact se_str) (by exact se_call (ps := ["_law_pool_here", "_law_most"]) (by exact ok__law_draw T) (by exact hr.mono (by decide)) (by exact hgd) (by rfl) (by exact T.m__law_draw) (by exact T.F__law_draw.kp) (by exact T.b__law_draw) (by exact (sa_cons (by exact sv_f 0) (sa_cons (by exact sv_f 4) sa_nil))))))) sa_nil)))))))))
theorem ok__law_policy (T : Top K mg) : FnG P w K mg base 2 T.f__law_policy T.d__law_policy ["_law_pool_here", "_law_lines", "_law_states"] (spF K (T.ct P w) m__law_policy 3) := fn_sim T.F__law_policy sc__law_policy fun cdv A outer s H E hr hgd =>
  (ss_cons (by exact ss_set (i := 3) sc__law_policy.nd rfl (Or.inl rfl) (by exact se_lst (by exact sa_nil))) (by exact (ss_cons (by exact ss_for PassesOwn.never rfl (by exact (si_range1 rfl (by exact T.n_range) (by exact sv_c 2))) (by exact (sg_name (ws := [4]) (i := 4) sc__law_policy.nd rfl (Or.inl rfl) (by decide))) (by exact (ss_cons (by exact ss_set (i := 5) sc__law_policy.nd rfl (Or.inl rfl) (by exact se_callTy sc_tuple (by rfl) (by exact T.n_tuple) (by decide +kernel) (by exact (sa_cons (by exact se_comp (own := [("_law_line", 6)]) rfl sc__law_policy.nd (by exact (si_range1 rfl (by exact T.n_range) (by exact sv_l 1))) (blkOk_by (N := ["_law_pool_here", "_law_lines", "_law_states", "_law_rows", "_law_turn", "_law_hits", "_law_line"]) (sc := defScope s__law_policy) (own := [("_law_line", 6)]) (by decide +kernel)) (fun _ _ _ _ _ => (by exact (sg_name (ws := [6]) (i := 6) sc__law_policy.nd rfl (Or.inl rfl) (by decide)))) (fun _ _ _ _ _ => sts_nil) (fun _ _ _ _ _ => (by exact se_call (ps := ["_law_pool_here", "_law_most"]) (by exact ok__law_draw T) (by exact hr.mono (by decide)) (by exact hgd) (by rfl) (by exact T.m__law_draw) (by exact T.F__law_draw.kp) (by exact T.b__law_draw) (by exact (sa_cons (by exact sv_f 0) (sa_cons (by exact sv_f 2) sa_nil)))))) sa_nil)))) (by exact (ss_one (by exact ss_expr (by exact (se_bm PySem.F.plainAttrs_list PySem.F.slot_list_append PySem.F.type_list_append sm_append (by exact sv_l 3) (by exact (sa_cons (by exact se_tup (by exact (sa_cons (by exact se_call (ps := ["_law_pool_here", "_law_most"]) (by exact ok__law_draw T) (by exact hr.mono (by decide)) (by exact hgd) (by rfl) (by exact T.m__law_draw) (by exact T.F__law_draw.kp) (by exact T.b__law_draw) (by exact (sa_cons (by exact sv_c 0) (sa_cons (by exact sv_l 1) sa_nil)))) (sa_cons (by exact se_call (ps := ["_law_pool_here", "_law_most"]) (by exact ok__law_draw T) (by exact hr.mono (by decide)) (by exact hgd) (by rfl) (by exact T.m__law_draw) (by exact T.F__law_draw.kp) (by exact T.b__law_draw) (by exact (sa_cons (by exact sv_c 0) (sa_cons (by exact sv_c 2) sa_nil)))) (sa_cons (by exact sv_l 5) sa_nil))))) sa_nil)))))))))) (by exact (ss_one (by exact ss_ret (by exact se_tup (by exact (sa_cons (by exact sv_l 1) (sa_cons (by exact se_callTy sc_tuple (by rfl) (by exact T.n_tuple) (by decide +kernel) (by exact (sa_cons (by exact sv_l 3) sa_nil))) sa_nil))))))))))
theorem ok__law_queue (T : Top K mg) : FnG P w K mg base 1 T.f__law_queue T.d__law_queue ["_law_lines"] (spF K (T.ct P w) m__law_queue 1) := fn_sim T.F__law_queue sc__law_queue fun cdv A outer s H E hr hgd =>
  (ss_one (by exact ss_ret (by exact se_tup (by exact (sa_cons (by exact sv_c 0) (sa_cons (by exact se_callTy sc_tuple (by rfl) (by exact T.n_tuple) (by decide +kernel) (by exact (sa_cons (by exact se_comp (own := [("_law_at", 1)]) rfl sc__law_queue.nd (by exact (si_range1 rfl (by exact T.n_range) (by exact sv_c 0))) (blkOk_by (N := ["_law_lines", "_law_at"]) (sc := defScope s__law_queue) (own := [("_law_at", 1)]) (by decide +kernel)) (fun _ _ _ _ _ => (by exact (sg_name (ws := [1]) (i := 1) sc__law_queue.nd rfl (Or.inl rfl) (by decide)))) (fun _ _ _ _ _ => sts_nil) (fun _ _ _ _ _ => (by exact se_tup (by exact (sa_cons (by exact sv_l 1) (sa_cons (by exact se_op so_mod (by exact se_op so_add (by exact sv_l 1) (by exact se_int)) (by exact sv_f 0)) (sa_cons (by exact se_op so_mul (by exact se_tup (by exact (sa_cons (by exact sv_l 1) sa_nil))) (by exact sv_f 0)) sa_nil))))))) sa_nil))) sa_nil))))))
theorem ok__law_recent (T : Top K mg) : FnG P w K mg base 1 T.f__law_recent T.d__law_recent ["_law_lines"] (spF K (T.ct P w) m__law_recent 1) := fn_sim T.F__law_recent sc__law_recent fun cdv A outer s H E hr hgd =>
  (ss_cons (by exact ss_asg (by exact se_tup (by exact (sa_cons (by exact se_lst (by exact (sa_cons (by exact se_tupR rfl rfl (by exact T.n_tuple) (sr_1 rfl (by exact T.n_range) (by exact sv_l 0))) sa_nil))) (sa_cons (by exact se_lst (by exact sa_nil)) (sa_cons (by exact se_int) sa_nil))))) (by exact (sg_or2 (sg_tup rfl (sgs_cons (by exact (sg_name (ws := [1, 2, 3]) (i := 1) sc__law_recent.nd rfl (Or.inr rfl) (by decide))) (sgs_cons (by exact (sg_name (ws := [1, 2, 3]) (i := 2) sc__law_recent.nd rfl (Or.inl rfl) (by decide))) (sgs_cons (by exact (sg_name (ws := [1, 2, 3]) (i := 3) sc__law_recent.nd rfl (Or.inl rfl) (by decide))) sgs_nil)))) (sg_unl rfl (sgs_cons (by exact (sg_name (ws := [1, 2, 3]) (i := 1) sc__law_recent.nd rfl (Or.inr rfl) (by decide))) (sgs_cons (by exact (sg_name (ws := [1, 2, 3]) (i := 2) sc__law_recent.nd rfl (Or.inl rfl) (by decide))) (sgs_cons (by exact (sg_name (ws := [1, 2, 3]) (i := 3) sc__law_recent.nd rfl (Or.inl rfl) (by decide))) sgs_nil))))))) (by exact (ss_cons (by exact ss_while 1000000 PassesOwn.never (by exact st_cmp so_lt (by exact sv_l 3) (by exact se_callB sc_lenE (by rfl) (by exact T.n_len) (by decide +kernel) (by exact (sa_cons (by exact sv_c 1) sa_nil))) (nomark _)) (by exact (ss_cons (by exact ss_set (i := 4) sc__law_recent.nd rfl (Or.inr rfl) (by exact se_ixE (hu65 hr) (by exact sv_c 1) (by exact sv_l 3))) (by exact (ss_cons (by exact ss_setLc (i := 5) (own := [("_law_line", 6)]) rfl sc__law_recent.nd rfl rfl (sw_true rfl rfl rfl (by decide +kernel)) (by exact (si_range1 rfl (by exact T.n_range) (by exact sv_l 0))) (blkOk_by (N := ["_law_lines", "_law_orders", "_law_rows", "_law_at", "_law_here", "_law_goals", "_law_line", "_law_spot", "_law_goal"]) (sc := defScope s__law_recent) (own := [("_law_line", 6)]) (by decide +kernel)) (fun _ _ _ _ _ => (by exact (sg_name (ws := [6]) (i := 6) sc__law_recent.nd rfl (Or.inr rfl) (by decide)))) (fun _ _ _ _ _ => sts_nil) (fun _ _ _ _ _ => (by exact se_op so_add (by exact se_callTy sc_tuple (by rfl) (by exact T.n_tuple) (by decide +kernel) (by exact (sa_cons (by exact se_comp (own := [("_law_spot", 7)]) rfl sc__law_recent.nd (by exact (si_seq (by exact sv_f 4))) (blkOk_by (own := [("_law_spot", 7)]) (by first | rfl | kernel_rfl)) (fun _ _ _ _ _ => (by exact (sg_name (ws := [7]) (i := 7) sc__law_recent.nd rfl (Or.inl rfl) (by decide)))) (fun _ _ _ _ _ => (sts_one (by exact st_cmp (by exact so_ne hr.units) (by exact sv_l 7) (by exact sv_f 6) (nomark _)))) (fun _ _ _ _ _ => (by exact sv_l 7))) sa_nil))) (by exact se_tup (by exact (sa_cons (by exact sv_c 6) sa_nil)))))) (by exact (ss_cons (by exact ss_expr (by exact (se_bm PySem.F.plainAttrs_list PySem.F.slot_list_extend PySem.F.type_list_extend sm_extend (by exact sv_c 1) (by exact (sa_cons (by exact se_comp (own := [("_law_goal", 8)]) rfl sc__law_recent.nd (by exact (si_seq (by exact sv_l 5))) (blkOk_by (N := ["_law_lines", "_law_orders", "_law_rows", "_law_at", "_law_here", "_law_goals", "_law_line", "_law_spot", "_law_goal"]) (sc := defScope s__law_recent) (own := [("_law_goal", 8)]) (by decide +kernel)) (fun _ _ _ _ _ => (by exact (sg_name (ws := [8]) (i := 8) sc__law_recent.nd rfl (Or.inl rfl) (by decide)))) (fun _ _ _ _ _ => (sts_one (by exact st_cmp (by exact so_notinE (hu65 hr)) (by exact sv_l 8) (by exact sv_f 1) (by rfl)))) (fun _ _ _ _ _ => (by exact sv_l 8))) sa_nil))))) (by exact (ss_cons (by exact ss_expr (by exact (se_bm PySem.F.plainAttrs_list PySem.F.slot_list_append PySem.F.type_list_append sm_append (by exact sv_l 2) (by exact (sa_cons (by exact se_tup (by exact (sa_cons (by exact se_ixE (hu65 hr) (by exact sv_c 4) (by exact se_int)) (sa_cons (by exact se_or2 (se_bm PySem.F.plainAttrs_list PySem.F.slot_list_index PySem.F.type_list_index (sm_index (hu65 hr)) (by exact sv_c 1) (by exact (sa_cons (by exact se_ixE (hu65 hr) (by exact sv_l 5) (by exact se_ixE (hu65 hr) (by exact sv_c 4) (by exact se_int))) sa_nil))) (se_bm PySem.F.plainAttrs_tuple PySem.F.slot_tuple_index PySem.F.type_tuple_index sm_tindex (by exact sv_c 1) (by exact (sa_cons (by exact se_ixE (hu65 hr) (by exact sv_l 5) (by exact se_ixE (hu65 hr) (by exact sv_c 4) (by exact se_int))) sa_nil)))) (sa_cons (by exact se_callTy sc_tuple (by rfl) (by exact T.n_tuple) (by decide +kernel) (by exact (sa_cons (by exact se_comp (own := [("_law_goal", 8)]) rfl sc__law_recent.nd (by exact (si_seq (by exact sv_l 5))) (blkOk_by (N := ["_law_lines", "_law_orders", "_law_rows", "_law_at", "_law_here", "_law_goals", "_law_line", "_law_spot", "_law_goal"]) (sc := defScope s__law_recent) (own := [("_law_goal", 8)]) (by decide +kernel)) (fun _ _ _ _ _ => (by exact (sg_name (ws := [8]) (i := 8) sc__law_recent.nd rfl (Or.inl rfl) (by decide)))) (fun _ _ _ _ _ => sts_nil) (fun _ _ _ _ _ => (by exact se_or2 (se_bm PySem.F.plainAttrs_list PySem.F.slot_list_index PySem.F.type_list_index (sm_index (hu65 hr)) (by exact sv_f 1) (by exact (sa_cons (by exact sv_l 8) sa_nil))) (se_bm PySem.F.plainAttrs_tuple PySem.F.slot_tuple_index PySem.F.type_tuple_index sm_tindex (by exact sv_f 1) (by exact (sa_cons (by exact sv_l 8) sa_nil)))))) sa_nil))) sa_nil))))) sa_nil))))) (by exact (ss_one (by exact ss_set (i := 3) sc__law_recent.nd rfl (Or.inl rfl) (by exact se_op so_add (by exact sv_l 3) (by exact se_int)))))))))))))) (by exact (ss_one (by exact ss_ret (by exact se_tup (by exact (sa_cons (by exact sv_l 0) (sa_cons (by exact se_callTy sc_tuple (by rfl) (by exact T.n_tuple) (by decide +kernel) (by exact (sa_cons (by exact sv_l 2) sa_nil))) sa_nil))))))))))
theorem ok__law_device (T : Top K mg) : FnG P w K mg base 3 T.f__law_device T.d__law_device ["_law_pool_here", "_law_most", "_law_states"] (spF K (T.ct P w) m__law_device 3) := fn_sim T.F__law_device sc__law_device fun cdv A outer s H E hr hgd =>
  (ss_cons (by exact ss_par (i := 3) (j := 4) rfl sc__law_device.nd rfl rfl (by decide) rfl rfl (by exact (sa_cons (by exact se_call (ps := ["_law_pool_here", "_law_most"]) (by exact ok__law_draw T) (by exact hr.mono (by decide)) (by exact hgd) (by rfl) (by exact T.m__law_draw) (by exact T.F__law_draw.kp) (by exact T.b__law_draw) (by exact (sa_cons (by exact sv_l 0) (sa_cons (by exact se_int) sa_nil)))) (sa_cons (by exact se_lst (by exact sa_nil)) sa_nil))) (by rfl)) (by exact (ss_cons (by exact ss_for PassesOwn.never rfl (by exact (si_range1 rfl (by exact T.n_range) (by exact se_int))) (by exact (sg_name (ws := [5]) (i := 5) sc__law_device.nd rfl (Or.inl rfl) (by decide))) (by exact (ss_cons (by exact ss_set (i := 6) sc__law_device.nd rfl (Or.inl rfl) (by exact se_op so_add (by exact se_int) (by exact se_call (ps := ["_law_pool_here", "_law_most"]) (by exact ok__law_draw T) (by exact hr.mono (by decide)) (by exact hgd) (by rfl) (by exact T.m__law_draw) (by exact T.F__law_draw.kp) (by exact T.b__law_draw) (by exact (sa_cons (by exact sv_l 0) (sa_cons (by exact sv_l 1) sa_nil)))))) (by exact (ss_cons (by exact ss_set (i := 7) sc__law_device.nd rfl (Or.inl rfl) (by exact se_lst (by exact (sa_cons (by exact se_call (ps := ["_law_lines"]) (by exact ok__law_recent T) (by exact hr.mono (by decide)) (by exact hgd) (by rfl) (by exact T.m__law_recent) (by exact T.F__law_recent.kp) (by exact T.b__law_recent) (by exact (sa_cons (by exact sv_l 6) sa_nil))) (sa_cons (by exact se_call (ps := ["_law_lines"]) (by exact ok__law_queue T) (by exact hr.mono (by decide)) (by exact hgd) (by rfl) (by exact T.m__law_queue) (by exact T.F__law_queue.kp) (by exact T.b__law_queue) (by exact (sa_cons (by exact sv_l 6) sa_nil))) sa_nil))))) (by exact (ss_cons (by exact ss_set (i := 8) sc__law_device.nd rfl (Or.inl rfl) (by exact se_call (ps := ["_law_pool_here", "_law_lines", "_law_states"]) (by exact ok__law_policy T) (by exact hr.mono (by decide)) (by exact hgd) (by rfl) (by exact T.m__law_policy) (by exact T.F__law_policy.kp) (by exact T.b__law_policy) (by exact (sa_cons (by exact sv_l 0) (sa_cons (by exact sv_l 6) (sa_cons (by exact se_op so_add (by exact se_int) (by exact se_call (ps := ["_law_pool_here", "_law_most"]) (by exact ok__law_draw T) (by exact hr.mono (by decide)) (by exact hgd) (by rfl) (by exact T.m__law_draw) (by exact T.F__law_draw.kp) (by exact T.b__law_draw) (by exact (sa_cons (by exact sv_l 0) (sa_cons (by exact sv_l 2) sa_nil))))) sa_nil)))))) (by exact (ss_one (by exact ss_expr (by exact (se_bm PySem.F.plainAttrs_list PySem.F.slot_list_append PySem.F.type_list_append sm_append (by exact sv_l 4) (by exact (sa_cons (by exact se_ixE (hu65 hr) (by exact se_op so_add (by exact sv_l 7) (by exact se_op so_mul (by exact se_lst (by exact (sa_cons (by exact sv_l 8) sa_nil))) (by exact se_int))) (by exact se_call (ps := ["_law_pool_here", "_law_most"]) (by exact ok__law_draw T) (by exact hr.mono (by decide)) (by exact hgd) (by rfl) (by exact T.m__law_draw) (by exact T.F__law_draw.kp) (by exact T.b__law_draw) (by exact (sa_cons (by exact sv_l 0) (sa_cons (by exact se_int) sa_nil))))) sa_nil)))))))))))))) (by exact (ss_cons (by exact ss_if (by exact st_cmp so_lt (by exact sv_l 3) (by exact se_int) (nomark _)) (by exact (ss_one (by exact ss_ret (by exact se_tup (by exact (sa_cons (by exact se_str) (sa_cons (by exact se_ixE (hu65 hr) (by exact sv_l 4) (by exact se_int)) sa_nil))))))) (by exact ss_nil)) (by exact (ss_one (by exact ss_ret (by exact se_tup (by exact (sa_cons (by exact se_ixE (hu65 hr) (by exact se_lst (by exact (sa_cons (by exact se_str) (sa_cons (by exact se_str) (sa_cons (by exact se_str) sa_nil))))) (by exact se_op so_sub (by exact sv_l 3) (by exact se_int))) (sa_cons (by exact se_ixE (hu65 hr) (by exact sv_l 4) (by exact se_int)) (sa_cons (by exact se_ixE (hu65 hr) (by exact sv_l 4) (by exact se_int)) sa_nil)))))))))))))
theorem ok__law_kit (T : Top K mg) : FnG P w K mg base 4 T.f__law_kit T.d__law_kit ["_law_pool_here"] (spF K (T.ct P w) m__law_kit 1) := fn_sim T.F__law_kit sc__law_kit fun cdv A outer s H E hr hgd =>
  (ss_cons (by exact ss_par (i := 1) (j := 2) rfl sc__law_kit.nd rfl rfl (by decide) rfl rfl (by exact (sa_cons (by exact se_call (ps := ["_law_pool_here", "_law_most"]) (by exact ok__law_draw T) (by exact hr.mono (by decide)) (by exact hgd) (by rfl) (by exact T.m__law_draw) (by exact T.F__law_draw.kp) (by exact T.b__law_draw) (by exact (sa_cons (by exact sv_l 0) (sa_cons (by exact se_int) sa_nil)))) (sa_cons (by exact se_op so_add (by exact se_int) (by exact se_call (ps := ["_law_pool_here", "_law_most"]) (by exact ok__law_draw T) (by exact hr.mono (by decide)) (by exact hgd) (by rfl) (by exact T.m__law_draw) (by exact T.F__law_draw.kp) (by exact T.b__law_draw) (by exact (sa_cons (by exact sv_l 0) (sa_cons (by exact se_int) sa_nil))))) sa_nil))) (by rfl)) (by exact (ss_cons (by exact ss_if (by exact st_cmp so_lt (by exact sv_l 1) (by exact se_int) (nomark _)) (by exact (ss_one (by exact ss_ret (by exact se_call (ps := ["_law_pool_here", "_law_most", "_law_states"]) (by exact ok__law_device T) (by exact hr.mono (by decide)) (by exact hgd) (by rfl) (by exact T.m__law_device) (by exact T.F__law_device.kp) (by exact T.b__law_device) (by exact (sa_cons (by exact sv_l 0) (sa_cons (by exact se_int) (sa_cons (by exact se_int) sa_nil)))))))) (by exact ss_nil)) (by exact (ss_one (by exact ss_ret (by exact se_tup (by exact (sa_cons (by exact se_str) (sa_cons (by exact se_ixE (hu65 hr) (by exact se_lst (by exact (sa_cons (by exact se_call (ps := ["_law_lines"]) (by exact ok__law_recent T) (by exact hr.mono (by decide)) (by exact hgd) (by rfl) (by exact T.m__law_recent) (by exact T.F__law_recent.kp) (by exact T.b__law_recent) (by exact (sa_cons (by exact sv_l 2) sa_nil))) (sa_cons (by exact se_call (ps := ["_law_lines"]) (by exact ok__law_queue T) (by exact hr.mono (by decide)) (by exact hgd) (by rfl) (by exact T.m__law_queue) (by exact T.F__law_queue.kp) (by exact T.b__law_queue) (by exact (sa_cons (by exact sv_l 2) sa_nil))) (sa_cons (by exact se_call (ps := ["_law_pool_here", "_law_lines", "_law_states"]) (by exact ok__law_policy T) (by exact hr.mono (by decide)) (by exact hgd) (by rfl) (by exact T.m__law_policy) (by exact T.F__law_policy.kp) (by exact T.b__law_policy) (by exact (sa_cons (by exact sv_l 0) (sa_cons (by exact sv_l 2) (sa_cons (by exact se_int) sa_nil))))) sa_nil))))) (by exact se_call (ps := ["_law_pool_here", "_law_most"]) (by exact ok__law_draw T) (by exact hr.mono (by decide)) (by exact hgd) (by rfl) (by exact T.m__law_draw) (by exact T.F__law_draw.kp) (by exact T.b__law_draw) (by exact (sa_cons (by exact sv_l 0) (sa_cons (by exact se_int) sa_nil))))) sa_nil))))))))))
theorem ok__law_right (T : Top K mg) : FnG P w K mg base 10 T.f__law_right T.d__law_right ["_law_pool_here"] (spF K (T.ct P w) m__law_right 1) := fn_sim T.F__law_right sc__law_right fun cdv A outer s H E hr hgd =>
  (ss_cons (by exact ss_for PassesOwn.never rfl (by exact (si_range1 rfl (by exact T.n_range) (by exact se_int))) (by exact (sg_name (ws := [1]) (i := 1) sc__law_right.nd rfl (Or.inl rfl) (by decide))) (by exact (ss_cons (by exact ss_set (i := 2) sc__law_right.nd rfl (Or.inl rfl) (by exact se_call (ps := ["_law_pool_here"]) (by exact ok__law_kit T) (by exact hr.mono (by decide)) (by exact hgd) (by rfl) (by exact T.m__law_kit) (by exact T.F__law_kit.kp) (by exact T.b__law_kit) (by exact (sa_cons (by exact sv_l 0) sa_nil)))) (by exact (ss_one (by exact ss_for PassesOwn.never rfl (by exact (si_range1 rfl (by exact T.n_range) (by exact se_int))) (by exact (sg_name (ws := [3]) (i := 3) sc__law_right.nd rfl (Or.inl rfl) (by decide))) (by exact (ss_cons (by exact ss_set (i := 4) sc__law_right.nd rfl (Or.inl rfl) (by exact se_call (ps := ["_law_pool_here", "_law_many", "_law_most"]) (by exact ok__law_row T) (by exact hr.mono (by decide)) (by exact hgd) (by rfl) (by exact T.m__law_row) (by exact T.F__law_row.kp) (by exact T.b__law_row) (by exact (sa_cons (by exact sv_l 0) (sa_cons (by exact se_int) (sa_cons (by exact se_int) sa_nil)))))) (by exact (ss_one (by exact ss_if (by exact SW.st (sw_or (by exact st_not (by exact st_truth (by exact se_call (ps := ["_law_unit", "_law_row_here"]) (by exact ok__law_device_right T) (by exact hr.mono (by decide)) (by exact hgd) (by rfl) (by exact T.m__law_device_right) (by exact T.F__law_device_right.kp) (by exact T.b__law_device_right) (by exact (sa_cons (by exact sv_l 2) (sa_cons (by exact sv_l 4) sa_nil)))))) (sw_or1 (by exact st_not (by exact st_truth (by exact se_call (ps := ["_law_pool_here", "_law_row_here"]) (by exact ok__law_row_right T) (by exact hr.mono (by decide)) (by exact hgd) (by rfl) (by exact T.m__law_row_right) (by exact T.F__law_row_right.kp) (by exact T.b__law_row_right) (by exact (sa_cons (by exact sv_l 0) (sa_cons (by exact sv_l 4) sa_nil))))))))) (by exact (ss_one (by exact ss_ret (by exact se_bl)))) (by exact ss_nil)))))))))))) (by exact (ss_one (by exact ss_ret (by exact se_bl)))))
theorem ok__law_pool (T : Top K mg) : FnG P w K mg base 1 T.f__law_pool T.d__law_pool ["_law_figure"] (spF K (T.ct P w) m__law_pool 1) := fn_sim T.F__law_pool sc__law_pool fun cdv A outer s H E hr hgd =>
  (ss_cons (by exact ss_set (i := 1) sc__law_pool.nd rfl (Or.inl rfl) (by exact se_if (by exact SW.st (sw_or (by exact st_cmp so_lt (by exact sv_l 0) (by exact se_int) (nomark _)) (sw_or1 (by exact st_cmp so_ge (by exact sv_l 0) (by exact se_op so_pow (by exact se_int) (by exact se_int)) (nomark _))))) (by exact se_callB sc_abs (by rfl) (by exact T.n_abs) (by decide +kernel) (by exact (sa_cons (by exact sv_l 0) sa_nil))) (by exact se_int))) (by exact (ss_one (by exact ss_ret (by exact se_lst (by exact (sa_cons (by exact se_op so_mod (by exact se_callTy sc_int (by rfl) (by exact T.n_int) (by decide +kernel) (by exact (sa_cons (by exact sv_l 0) sa_nil))) (by exact se_int)) (sa_cons (by exact sv_l 1) (sa_cons (by exact se_int) sa_nil)))))))))
theorem ok__law_cell (T : Top K mg) : FnG P w K mg base 1 T.f__law_cell T.d__law_cell ["_law_script", "_law_k"] (spF K (T.ct P w) m__law_cell 2) := fn_sim T.F__law_cell sc__law_cell fun cdv A outer s H E hr hgd =>
  (ss_cons (by exact ss_if (by exact st_cmp so_lt (by exact sv_l 1) (by exact se_callB sc_lenE (by rfl) (by exact T.n_len) (by decide +kernel) (by exact (sa_cons (by exact sv_l 0) sa_nil))) (nomark _)) (by exact (ss_one (by exact ss_ret (by exact se_callTy sc_int (by rfl) (by exact T.n_int) (by decide +kernel) (by exact (sa_cons (by exact se_ixE (hu65 hr) (by exact sv_l 0) (by exact sv_l 1)) sa_nil)))))) (by exact ss_nil)) (by exact (ss_cons (by exact ss_set (i := 2) sc__law_cell.nd rfl (Or.inl rfl) (by exact se_op so_mod (by exact se_op so_mul (by exact se_int) (by exact se_op so_add (by exact se_op so_add (by exact se_op so_mul (by exact sv_l 1) (by exact sv_l 1)) (by exact se_op so_mul (by exact se_int) (by exact sv_l 1))) (by exact se_int))) (by exact se_int))) (by exact (ss_cons (by exact ss_for PassesOwn.never rfl (by exact (si_seq (by exact se_slice (by exact sv_l 0) so_none (by exact so_some (by exact se_int))))) (by exact (sg_name (ws := [3]) (i := 3) sc__law_cell.nd rfl (Or.inl rfl) (by decide))) (by exact (ss_one (by exact ss_set (i := 2) sc__law_cell.nd rfl (Or.inl rfl) (by exact se_op so_mod (by exact se_op so_add (by exact se_op so_mul (by exact sv_l 2) (by exact se_int)) (by exact se_callTy sc_int (by rfl) (by exact T.n_int) (by decide +kernel) (by exact (sa_cons (by exact sv_l 3) sa_nil)))) (by exact se_int)))))) (by exact (ss_one (by exact ss_ret (by exact sv_l 2)))))))))
theorem ok_law (T : Top K mg) : FnG P w K mg base 11 T.f_law T.d_law ["_law_script"] (spF K (T.ct P w) m_law 1) := fn_sim T.F_law sc_law fun cdv A outer s H E hr hgd =>
  (ss_one (by exact ss_ret (by exact se_callB (sc_all rfl) (by rfl) (by exact T.n_all) (by decide +kernel) (by exact (sa_cons (by exact se_comp (own := [("_law_k", 1)]) rfl sc_law.nd (by exact (si_range1 rfl (by exact T.n_range) (by exact se_callB (sc_max rfl) (by rfl) (by exact T.n_max) (by decide +kernel) (by exact (sa_cons (by exact se_int) (sa_cons (by exact se_callB (sc_min rfl) (by rfl) (by exact T.n_min) (by decide +kernel) (by exact (sa_cons (by exact se_callB sc_lenE (by rfl) (by exact T.n_len) (by decide +kernel) (by exact (sa_cons (by exact sv_c 0) sa_nil))) (sa_cons (by exact se_int) sa_nil)))) sa_nil)))))) (blkOk_by (N := ["_law_script", "_law_k"]) (sc := defScope s_law) (own := [("_law_k", 1)]) (by decide +kernel)) (fun _ _ _ _ _ => (by exact (sg_name (ws := [1]) (i := 1) sc_law.nd rfl (Or.inl rfl) (by decide)))) (fun _ _ _ _ _ => sts_nil) (fun _ _ _ _ _ => (by exact se_call (ps := ["_law_pool_here"]) (by exact ok__law_right T) (by exact hr.mono (by decide)) (by exact hgd) (by rfl) (by exact T.m__law_right) (by exact T.F__law_right.kp) (by exact T.b__law_right) (by exact (sa_cons (by exact se_call (ps := ["_law_figure"]) (by exact ok__law_pool T) (by exact hr.mono (by decide)) (by exact hgd) (by rfl) (by exact T.m__law_pool) (by exact T.F__law_pool.kp) (by exact T.b__law_pool) (by exact (sa_cons (by exact se_call (ps := ["_law_script", "_law_k"]) (by exact ok__law_cell T) (by exact hr.mono (by decide)) (by exact hgd) (by rfl) (by exact T.m__law_cell) (by exact T.F__law_cell.kp) (by exact T.b__law_cell) (by exact (sa_cons (by exact sv_f 0) (sa_cons (by exact sv_l 1) sa_nil)))) sa_nil))) sa_nil))))) sa_nil)))))
end
theorem all_mk {K : Frg} {h : Heap} {mg : Str → Option Value} {fa : Addr} {C_Box : Addr} {C_Cache : Addr} {f_Cache_note_answer : Addr} {oc_Cache_note_answer kV_Cache_note_answer dc_Cache_note_answer pm_Cache_note_answer cd_Cache_note_answer ct_Cache_note_answer : Value} {od_Cache_note_answer an_Cache_note_answer : Option Addr} {sl_Cache_note_answer : Array (Option Value)} {f_Box_told : Addr} {oc_Box_told kV_Box_told dc_Box_told pm_Box_told cd_Box_told ct_Box_told : Value} {od_Box_told an_Box_told : Option Addr} {sl_Box_told : Array (Option Value)} {f_Box_touch : Addr} {oc_Box_touch kV_Box_touch dc_Box_touch pm_Box_touch cd_Box_touch ct_Box_touch : Value} {od_Box_touch an_Box_touch : Option Addr} {sl_Box_touch : Array (Option Value)} {f_Box_fill : Addr} {oc_Box_fill kV_Box_fill dc_Box_fill pm_Box_fill cd_Box_fill ct_Box_fill : Value} {od_Box_fill an_Box_fill : Option Addr} {sl_Box_fill : Array (Option Value)} {f_Box_go_down : Addr} {oc_Box_go_down kV_Box_go_down dc_Box_go_down pm_Box_go_down cd_Box_go_down ct_Box_go_down : Value} {od_Box_go_down an_Box_go_down : Option Addr} {sl_Box_go_down : Array (Option Value)} {f_Box_holds : Addr} {oc_Box_holds kV_Box_holds dc_Box_holds pm_Box_holds cd_Box_holds ct_Box_holds : Value} {od_Box_holds an_Box_holds : Option Addr} {sl_Box_holds : Array (Option Value)} {f_Box_ask : Addr} {oc_Box_ask kV_Box_ask dc_Box_ask pm_Box_ask cd_Box_ask ct_Box_ask : Value} {od_Box_ask an_Box_ask : Option Addr} {sl_Box_ask : Array (Option Value)} {f_is_name : Addr} {oc_is_name kV_is_name dc_is_name pm_is_name cd_is_name ct_is_name : Value} {od_is_name an_is_name : Option Addr} {sl_is_name : Array (Option Value)} {f_check_name : Addr} {oc_check_name kV_check_name dc_check_name pm_check_name cd_check_name ct_check_name : Value} {od_check_name an_check_name : Option Addr} {sl_check_name : Array (Option Value)} {f_Cache_request : Addr} {oc_Cache_request kV_Cache_request dc_Cache_request pm_Cache_request cd_Cache_request ct_Cache_request : Value} {od_Cache_request an_Cache_request : Option Addr} {sl_Cache_request : Array (Option Value)} {f_Cache_misses : Addr} {oc_Cache_misses kV_Cache_misses dc_Cache_misses pm_Cache_misses cd_Cache_misses ct_Cache_misses : Value} {od_Cache_misses an_Cache_misses : Option Addr} {sl_Cache_misses : Array (Option Value)} {p_Cache_misses : Addr} {rs_Cache_misses : List Value} {f_next_requests : Addr} {oc_next_requests kV_next_requests dc_next_requests pm_next_requests cd_next_requests ct_next_requests : Value} {od_next_requests an_next_requests : Option Addr} {sl_next_requests : Array (Option Value)} {f_is_integer : Addr} {oc_is_integer kV_is_integer dc_is_integer pm_is_integer cd_is_integer ct_is_integer : Value} {od_is_integer an_is_integer : Option Addr} {sl_is_integer : Array (Option Value)} {f_is_between : Addr} {oc_is_between kV_is_between dc_is_between pm_is_between cd_is_between ct_is_between : Value} {od_is_between an_is_between : Option Addr} {sl_is_between : Array (Option Value)} {f_check_lines : Addr} {oc_check_lines kV_check_lines dc_check_lines pm_check_lines cd_check_lines ct_check_lines : Value} {od_check_lines an_check_lines : Option Addr} {sl_check_lines : Array (Option Value)} {f_check_history : Addr} {oc_check_history kV_check_history dc_check_history pm_check_history cd_check_history ct_check_history : Value} {od_check_history an_check_history : Option Addr} {sl_check_history : Array (Option Value)} {f_check_asked : Addr} {oc_check_asked kV_check_asked dc_check_asked pm_check_asked cd_check_asked ct_check_asked : Value} {od_check_asked an_check_asked : Option Addr} {sl_check_asked : Array (Option Value)} {f_best_keeping : Addr} {oc_best_keeping kV_best_keeping dc_best_keeping pm_best_keeping cd_best_keeping ct_best_keeping : Value} {od_best_keeping an_best_keeping : Option Addr} {sl_best_keeping : Array (Option Value)} {f_least_misses : Addr} {oc_least_misses kV_least_misses dc_least_misses pm_least_misses cd_least_misses ct_least_misses : Value} {od_least_misses an_least_misses : Option Addr} {sl_least_misses : Array (Option Value)} {f_Box_init : Addr} {oc_Box_init kV_Box_init dc_Box_init pm_Box_init cd_Box_init ct_Box_init : Value} {od_Box_init an_Box_init : Option Addr} {sl_Box_init : Array (Option Value)} {f_is_row : Addr} {oc_is_row kV_is_row dc_is_row pm_is_row cd_is_row ct_is_row : Value} {od_is_row an_is_row : Option Addr} {sl_is_row : Array (Option Value)} {f_is_policy : Addr} {oc_is_policy kV_is_policy dc_is_policy pm_is_policy cd_is_policy ct_is_policy : Value} {od_is_policy an_is_policy : Option Addr} {sl_is_policy : Array (Option Value)} {f_is_device : Addr} {oc_is_device kV_is_device dc_is_device pm_is_device cd_is_device ct_is_device : Value} {od_is_device an_is_device : Option Addr} {sl_is_device : Array (Option Value)} {f_check_device : Addr} {oc_check_device kV_check_device dc_check_device pm_check_device cd_check_device ct_check_device : Value} {od_check_device an_check_device : Option Addr} {sl_check_device : Array (Option Value)} {f_Cache_init : Addr} {oc_Cache_init kV_Cache_init dc_Cache_init pm_Cache_init cd_Cache_init ct_Cache_init : Value} {od_Cache_init an_Cache_init : Option Addr} {sl_Cache_init : Array (Option Value)} {f_answers : Addr} {oc_answers kV_answers dc_answers pm_answers cd_answers ct_answers : Value} {od_answers an_answers : Option Addr} {sl_answers : Array (Option Value)} {f_count_misses : Addr} {oc_count_misses kV_count_misses dc_count_misses pm_count_misses cd_count_misses ct_count_misses : Value} {od_count_misses an_count_misses : Option Addr} {sl_count_misses : Array (Option Value)} {f_is_keeping : Addr} {oc_is_keeping kV_is_keeping dc_is_keeping pm_is_keeping cd_is_keeping ct_is_keeping : Value} {od_is_keeping an_is_keeping : Option Addr} {sl_is_keeping : Array (Option Value)} {f__law_later : Addr} {oc__law_later kV__law_later dc__law_later pm__law_later cd__law_later ct__law_later : Value} {od__law_later an__law_later : Option Addr} {sl__law_later : Array (Option Value)} {f_count_lines : Addr} {oc_count_lines kV_count_lines dc_count_lines pm_count_lines cd_count_lines ct_count_lines : Value} {od_count_lines an_count_lines : Option Addr} {sl_count_lines : Array (Option Value)} {f__law_device_right : Addr} {oc__law_device_right kV__law_device_right dc__law_device_right pm__law_device_right cd__law_device_right ct__law_device_right : Value} {od__law_device_right an__law_device_right : Option Addr} {sl__law_device_right : Array (Option Value)} {f__law_draw : Addr} {oc__law_draw kV__law_draw dc__law_draw pm__law_draw cd__law_draw ct__law_draw : Value} {od__law_draw an__law_draw : Option Addr} {sl__law_draw : Array (Option Value)} {f__law_row_right : Addr} {oc__law_row_right kV__law_row_right dc__law_row_right pm__law_row_right cd__law_row_right ct__law_row_right : Value} {od__law_row_right an__law_row_right : Option Addr} {sl__law_row_right : Array (Option Value)} {f__law_row : Addr} {oc__law_row kV__law_row dc__law_row pm__law_row cd__law_row ct__law_row : Value} {od__law_row an__law_row : Option Addr} {sl__law_row : Array (Option Value)} {f__law_policy : Addr} {oc__law_policy kV__law_policy dc__law_policy pm__law_policy cd__law_policy ct__law_policy : Value} {od__law_policy an__law_policy : Option Addr} {sl__law_policy : Array (Option Value)} {f__law_queue : Addr} {oc__law_queue kV__law_queue dc__law_queue pm__law_queue cd__law_queue ct__law_queue : Value} {od__law_queue an__law_queue : Option Addr} {sl__law_queue : Array (Option Value)} {f__law_recent : Addr} {oc__law_recent kV__law_recent dc__law_recent pm__law_recent cd__law_recent ct__law_recent : Value} {od__law_recent an__law_recent : Option Addr} {sl__law_recent : Array (Option Value)} {f__law_device : Addr} {oc__law_device kV__law_device dc__law_device pm__law_device cd__law_device ct__law_device : Value} {od__law_device an__law_device : Option Addr} {sl__law_device : Array (Option Value)} {f__law_kit : Addr} {oc__law_kit kV__law_kit dc__law_kit pm__law_kit cd__law_kit ct__law_kit : Value} {od__law_kit an__law_kit : Option Addr} {sl__law_kit : Array (Option Value)} {f__law_right : Addr} {oc__law_right kV__law_right dc__law_right pm__law_right cd__law_right ct__law_right : Value} {od__law_right an__law_right : Option Addr} {sl__law_right : Array (Option Value)} {f__law_pool : Addr} {oc__law_pool kV__law_pool dc__law_pool pm__law_pool cd__law_pool ct__law_pool : Value} {od__law_pool an__law_pool : Option Addr} {sl__law_pool : Array (Option Value)} {f__law_cell : Addr} {oc__law_cell kV__law_cell dc__law_cell pm__law_cell cd__law_cell ct__law_cell : Value} {od__law_cell an__law_cell : Option Addr} {sl__law_cell : Array (Option Value)} {f_law : Addr} {oc_law kV_law dc_law pm_law cd_law ct_law : Value} {od_law an_law : Option Addr} {sl_law : Array (Option Value)} {gt_LETTERS : Tok} {ga_LEVELS : Addr} {gn_LEVELS : Nat} {gs_LEVELS : Array (Option Value)} {gt0_LEVELS : Tok} {gt1_LEVELS : Tok} {gt2_LEVELS : Tok} {gt_LONGEST : Tok} {gt_MOST_KEPT : Tok} {gt_MOST_LINES : Tok} {gt_MOST_REQUESTS : Tok} {gt_MOST_STATES : Tok} (X : K.In h) (G : h.Ns mainGlobals mg) (hfa : mg "law" = some (.ref fa))
    (aC_Box : PySem.W.nsIn K mainGlobals "Box" = some (some (.ref C_Box)))
    (pg_Box : PySem.W.plainGet K C_Box Str.empty = true)
    (hd_Box : PySem.W.hasDictIn K C_Box = true)
    (po_Box : PySem.W.plainOver K C_Box = true)
    (sa_Box : PySem.W.findIn K (.ref C_Box) "__setattr__" = some (some (.builtin "object.__setattr__")))
    (aC_Cache : PySem.W.nsIn K mainGlobals "Cache" = some (some (.ref C_Cache)))
    (pg_Cache : PySem.W.plainGet K C_Cache Str.empty = true)
    (hd_Cache : PySem.W.hasDictIn K C_Cache = true)
    (po_Cache : PySem.W.plainOver K C_Cache = true)
    (sa_Cache : PySem.W.findIn K (.ref C_Cache) "__setattr__" = some (some (.builtin "object.__setattr__")))
    (a_Cache_note_answer : PySem.W.findIn K (.ref C_Cache) "note_answer" = some (some (.ref f_Cache_note_answer)))
    (i_Cache_note_answer : PySem.W.isFn K (.ref f_Cache_note_answer) = true)
    (l_Cache_note_answer : K.lookup f_Cache_note_answer = some ⟨oc_Cache_note_answer, od_Cache_note_answer, .func (PySem.W.fnOf "note_answer" "Cache.note_answer" (defArgs s_Cache_note_answer) (defBody s_Cache_note_answer) (defScope s_Cache_note_answer) .none kV_Cache_note_answer dc_Cache_note_answer pm_Cache_note_answer an_Cache_note_answer cd_Cache_note_answer ct_Cache_note_answer), sl_Cache_note_answer⟩)
    (c_Cache_note_answer : PySem.W.codeIn K cd_Cache_note_answer "Cache.note_answer" = true)
    (k_Cache_note_answer : PySem.W.keepIn K (.ref f_Cache_note_answer) = true)
    (a_Box_told : PySem.W.findIn K (.ref C_Box) "told" = some (some (.ref f_Box_told)))
    (i_Box_told : PySem.W.isFn K (.ref f_Box_told) = true)
    (l_Box_told : K.lookup f_Box_told = some ⟨oc_Box_told, od_Box_told, .func (PySem.W.fnOf "told" "Box.told" (defArgs s_Box_told) (defBody s_Box_told) (defScope s_Box_told) .none kV_Box_told dc_Box_told pm_Box_told an_Box_told cd_Box_told ct_Box_told), sl_Box_told⟩)
    (c_Box_told : PySem.W.codeIn K cd_Box_told "Box.told" = true)
    (k_Box_told : PySem.W.keepIn K (.ref f_Box_told) = true)
    (a_Box_touch : PySem.W.findIn K (.ref C_Box) "touch" = some (some (.ref f_Box_touch)))
    (i_Box_touch : PySem.W.isFn K (.ref f_Box_touch) = true)
    (l_Box_touch : K.lookup f_Box_touch = some ⟨oc_Box_touch, od_Box_touch, .func (PySem.W.fnOf "touch" "Box.touch" (defArgs s_Box_touch) (defBody s_Box_touch) (defScope s_Box_touch) .none kV_Box_touch dc_Box_touch pm_Box_touch an_Box_touch cd_Box_touch ct_Box_touch), sl_Box_touch⟩)
    (c_Box_touch : PySem.W.codeIn K cd_Box_touch "Box.touch" = true)
    (k_Box_touch : PySem.W.keepIn K (.ref f_Box_touch) = true)
    (a_Box_fill : PySem.W.findIn K (.ref C_Box) "fill" = some (some (.ref f_Box_fill)))
    (i_Box_fill : PySem.W.isFn K (.ref f_Box_fill) = true)
    (l_Box_fill : K.lookup f_Box_fill = some ⟨oc_Box_fill, od_Box_fill, .func (PySem.W.fnOf "fill" "Box.fill" (defArgs s_Box_fill) (defBody s_Box_fill) (defScope s_Box_fill) .none kV_Box_fill dc_Box_fill pm_Box_fill an_Box_fill cd_Box_fill ct_Box_fill), sl_Box_fill⟩)
    (c_Box_fill : PySem.W.codeIn K cd_Box_fill "Box.fill" = true)
    (k_Box_fill : PySem.W.keepIn K (.ref f_Box_fill) = true)
    (a_Box_go_down : PySem.W.findIn K (.ref C_Box) "go_down" = some (some (.ref f_Box_go_down)))
    (i_Box_go_down : PySem.W.isFn K (.ref f_Box_go_down) = true)
    (l_Box_go_down : K.lookup f_Box_go_down = some ⟨oc_Box_go_down, od_Box_go_down, .func (PySem.W.fnOf "go_down" "Box.go_down" (defArgs s_Box_go_down) (defBody s_Box_go_down) (defScope s_Box_go_down) .none kV_Box_go_down dc_Box_go_down pm_Box_go_down an_Box_go_down cd_Box_go_down ct_Box_go_down), sl_Box_go_down⟩)
    (c_Box_go_down : PySem.W.codeIn K cd_Box_go_down "Box.go_down" = true)
    (k_Box_go_down : PySem.W.keepIn K (.ref f_Box_go_down) = true)
    (a_Box_holds : PySem.W.findIn K (.ref C_Box) "holds" = some (some (.ref f_Box_holds)))
    (i_Box_holds : PySem.W.isFn K (.ref f_Box_holds) = true)
    (l_Box_holds : K.lookup f_Box_holds = some ⟨oc_Box_holds, od_Box_holds, .func (PySem.W.fnOf "holds" "Box.holds" (defArgs s_Box_holds) (defBody s_Box_holds) (defScope s_Box_holds) .none kV_Box_holds dc_Box_holds pm_Box_holds an_Box_holds cd_Box_holds ct_Box_holds), sl_Box_holds⟩)
    (c_Box_holds : PySem.W.codeIn K cd_Box_holds "Box.holds" = true)
    (k_Box_holds : PySem.W.keepIn K (.ref f_Box_holds) = true)
    (a_Box_ask : PySem.W.findIn K (.ref C_Box) "ask" = some (some (.ref f_Box_ask)))
    (i_Box_ask : PySem.W.isFn K (.ref f_Box_ask) = true)
    (l_Box_ask : K.lookup f_Box_ask = some ⟨oc_Box_ask, od_Box_ask, .func (PySem.W.fnOf "ask" "Box.ask" (defArgs s_Box_ask) (defBody s_Box_ask) (defScope s_Box_ask) .none kV_Box_ask dc_Box_ask pm_Box_ask an_Box_ask cd_Box_ask ct_Box_ask), sl_Box_ask⟩)
    (c_Box_ask : PySem.W.codeIn K cd_Box_ask "Box.ask" = true)
    (k_Box_ask : PySem.W.keepIn K (.ref f_Box_ask) = true)
    (a_is_name : PySem.W.nsIn K mainGlobals "is_name" = some (some (.ref f_is_name)))
    (l_is_name : K.lookup f_is_name = some ⟨oc_is_name, od_is_name, .func (PySem.W.fnOf "is_name" "is_name" (defArgs s_is_name) (defBody s_is_name) (defScope s_is_name) .none kV_is_name dc_is_name pm_is_name an_is_name cd_is_name ct_is_name), sl_is_name⟩)
    (c_is_name : PySem.W.codeIn K cd_is_name "is_name" = true)
    (k_is_name : PySem.W.keepIn K (.ref f_is_name) = true)
    (a_check_name : PySem.W.nsIn K mainGlobals "check_name" = some (some (.ref f_check_name)))
    (l_check_name : K.lookup f_check_name = some ⟨oc_check_name, od_check_name, .func (PySem.W.fnOf "check_name" "check_name" (defArgs s_check_name) (defBody s_check_name) (defScope s_check_name) .none kV_check_name dc_check_name pm_check_name an_check_name cd_check_name ct_check_name), sl_check_name⟩)
    (c_check_name : PySem.W.codeIn K cd_check_name "check_name" = true)
    (k_check_name : PySem.W.keepIn K (.ref f_check_name) = true)
    (a_Cache_request : PySem.W.findIn K (.ref C_Cache) "request" = some (some (.ref f_Cache_request)))
    (i_Cache_request : PySem.W.isFn K (.ref f_Cache_request) = true)
    (l_Cache_request : K.lookup f_Cache_request = some ⟨oc_Cache_request, od_Cache_request, .func (PySem.W.fnOf "request" "Cache.request" (defArgs s_Cache_request) (defBody s_Cache_request) (defScope s_Cache_request) .none kV_Cache_request dc_Cache_request pm_Cache_request an_Cache_request cd_Cache_request ct_Cache_request), sl_Cache_request⟩)
    (c_Cache_request : PySem.W.codeIn K cd_Cache_request "Cache.request" = true)
    (k_Cache_request : PySem.W.keepIn K (.ref f_Cache_request) = true)
    (a_Cache_misses : PySem.W.findIn K (.ref C_Cache) "misses" = some (some (.ref p_Cache_misses)))
    (pr_Cache_misses : PySem.W.recIn K p_Cache_misses "property" = some (.ref f_Cache_misses :: rs_Cache_misses))
    (pe_Cache_misses : PySem.W.specialIn K (.ref p_Cache_misses) "__get__" = some (some (.builtin "property.__get__")))
    (pt_Cache_misses : PySem.W.takesIn K (.ref p_Cache_misses) = some true)
    (l_Cache_misses : K.lookup f_Cache_misses = some ⟨oc_Cache_misses, od_Cache_misses, .func (PySem.W.fnOf "misses" "Cache.misses" (defArgs s_Cache_misses) (defBody s_Cache_misses) (defScope s_Cache_misses) .none kV_Cache_misses dc_Cache_misses pm_Cache_misses an_Cache_misses cd_Cache_misses ct_Cache_misses), sl_Cache_misses⟩)
    (c_Cache_misses : PySem.W.codeIn K cd_Cache_misses "Cache.misses" = true)
    (k_Cache_misses : PySem.W.keepIn K (.ref f_Cache_misses) = true)
    (a_next_requests : PySem.W.nsIn K mainGlobals "next_requests" = some (some (.ref f_next_requests)))
    (l_next_requests : K.lookup f_next_requests = some ⟨oc_next_requests, od_next_requests, .func (PySem.W.fnOf "next_requests" "next_requests" (defArgs s_next_requests) (defBody s_next_requests) (defScope s_next_requests) .none kV_next_requests dc_next_requests pm_next_requests an_next_requests cd_next_requests ct_next_requests), sl_next_requests⟩)
    (c_next_requests : PySem.W.codeIn K cd_next_requests "next_requests" = true)
    (k_next_requests : PySem.W.keepIn K (.ref f_next_requests) = true)
    (a_is_integer : PySem.W.nsIn K mainGlobals "is_integer" = some (some (.ref f_is_integer)))
    (l_is_integer : K.lookup f_is_integer = some ⟨oc_is_integer, od_is_integer, .func (PySem.W.fnOf "is_integer" "is_integer" (defArgs s_is_integer) (defBody s_is_integer) (defScope s_is_integer) .none kV_is_integer dc_is_integer pm_is_integer an_is_integer cd_is_integer ct_is_integer), sl_is_integer⟩)
    (c_is_integer : PySem.W.codeIn K cd_is_integer "is_integer" = true)
    (k_is_integer : PySem.W.keepIn K (.ref f_is_integer) = true)
    (a_is_between : PySem.W.nsIn K mainGlobals "is_between" = some (some (.ref f_is_between)))
    (l_is_between : K.lookup f_is_between = some ⟨oc_is_between, od_is_between, .func (PySem.W.fnOf "is_between" "is_between" (defArgs s_is_between) (defBody s_is_between) (defScope s_is_between) .none kV_is_between dc_is_between pm_is_between an_is_between cd_is_between ct_is_between), sl_is_between⟩)
    (c_is_between : PySem.W.codeIn K cd_is_between "is_between" = true)
    (k_is_between : PySem.W.keepIn K (.ref f_is_between) = true)
    (a_check_lines : PySem.W.nsIn K mainGlobals "check_lines" = some (some (.ref f_check_lines)))
    (l_check_lines : K.lookup f_check_lines = some ⟨oc_check_lines, od_check_lines, .func (PySem.W.fnOf "check_lines" "check_lines" (defArgs s_check_lines) (defBody s_check_lines) (defScope s_check_lines) .none kV_check_lines dc_check_lines pm_check_lines an_check_lines cd_check_lines ct_check_lines), sl_check_lines⟩)
    (c_check_lines : PySem.W.codeIn K cd_check_lines "check_lines" = true)
    (k_check_lines : PySem.W.keepIn K (.ref f_check_lines) = true)
    (a_check_history : PySem.W.nsIn K mainGlobals "check_history" = some (some (.ref f_check_history)))
    (l_check_history : K.lookup f_check_history = some ⟨oc_check_history, od_check_history, .func (PySem.W.fnOf "check_history" "check_history" (defArgs s_check_history) (defBody s_check_history) (defScope s_check_history) .none kV_check_history dc_check_history pm_check_history an_check_history cd_check_history ct_check_history), sl_check_history⟩)
    (c_check_history : PySem.W.codeIn K cd_check_history "check_history" = true)
    (k_check_history : PySem.W.keepIn K (.ref f_check_history) = true)
    (a_check_asked : PySem.W.nsIn K mainGlobals "check_asked" = some (some (.ref f_check_asked)))
    (l_check_asked : K.lookup f_check_asked = some ⟨oc_check_asked, od_check_asked, .func (PySem.W.fnOf "check_asked" "check_asked" (defArgs s_check_asked) (defBody s_check_asked) (defScope s_check_asked) .none kV_check_asked dc_check_asked pm_check_asked an_check_asked cd_check_asked ct_check_asked), sl_check_asked⟩)
    (c_check_asked : PySem.W.codeIn K cd_check_asked "check_asked" = true)
    (k_check_asked : PySem.W.keepIn K (.ref f_check_asked) = true)
    (a_best_keeping : PySem.W.nsIn K mainGlobals "best_keeping" = some (some (.ref f_best_keeping)))
    (l_best_keeping : K.lookup f_best_keeping = some ⟨oc_best_keeping, od_best_keeping, .func (PySem.W.fnOf "best_keeping" "best_keeping" (defArgs s_best_keeping) (defBody s_best_keeping) (defScope s_best_keeping) .none kV_best_keeping dc_best_keeping pm_best_keeping an_best_keeping cd_best_keeping ct_best_keeping), sl_best_keeping⟩)
    (c_best_keeping : PySem.W.codeIn K cd_best_keeping "best_keeping" = true)
    (k_best_keeping : PySem.W.keepIn K (.ref f_best_keeping) = true)
    (a_least_misses : PySem.W.nsIn K mainGlobals "least_misses" = some (some (.ref f_least_misses)))
    (l_least_misses : K.lookup f_least_misses = some ⟨oc_least_misses, od_least_misses, .func (PySem.W.fnOf "least_misses" "least_misses" (defArgs s_least_misses) (defBody s_least_misses) (defScope s_least_misses) .none kV_least_misses dc_least_misses pm_least_misses an_least_misses cd_least_misses ct_least_misses), sl_least_misses⟩)
    (c_least_misses : PySem.W.codeIn K cd_least_misses "least_misses" = true)
    (k_least_misses : PySem.W.keepIn K (.ref f_least_misses) = true)
    (a_Box_init : PySem.W.findIn K (.ref C_Box) "__init__" = some (some (.ref f_Box_init)))
    (i_Box_init : PySem.W.isFn K (.ref f_Box_init) = true)
    (mk_Box : PySem.W.makesIn K C_Box = true)
    (kc_Box : PySem.W.keepIn K (.ref C_Box) = true)
    (l_Box_init : K.lookup f_Box_init = some ⟨oc_Box_init, od_Box_init, .func (PySem.W.fnOf "__init__" "Box.__init__" (defArgs s_Box_init) (defBody s_Box_init) (defScope s_Box_init) .none kV_Box_init dc_Box_init pm_Box_init an_Box_init cd_Box_init ct_Box_init), sl_Box_init⟩)
    (c_Box_init : PySem.W.codeIn K cd_Box_init "Box.__init__" = true)
    (k_Box_init : PySem.W.keepIn K (.ref f_Box_init) = true)
    (a_is_row : PySem.W.nsIn K mainGlobals "is_row" = some (some (.ref f_is_row)))
    (l_is_row : K.lookup f_is_row = some ⟨oc_is_row, od_is_row, .func (PySem.W.fnOf "is_row" "is_row" (defArgs s_is_row) (defBody s_is_row) (defScope s_is_row) .none kV_is_row dc_is_row pm_is_row an_is_row cd_is_row ct_is_row), sl_is_row⟩)
    (c_is_row : PySem.W.codeIn K cd_is_row "is_row" = true)
    (k_is_row : PySem.W.keepIn K (.ref f_is_row) = true)
    (a_is_policy : PySem.W.nsIn K mainGlobals "is_policy" = some (some (.ref f_is_policy)))
    (l_is_policy : K.lookup f_is_policy = some ⟨oc_is_policy, od_is_policy, .func (PySem.W.fnOf "is_policy" "is_policy" (defArgs s_is_policy) (defBody s_is_policy) (defScope s_is_policy) .none kV_is_policy dc_is_policy pm_is_policy an_is_policy cd_is_policy ct_is_policy), sl_is_policy⟩)
    (c_is_policy : PySem.W.codeIn K cd_is_policy "is_policy" = true)
    (k_is_policy : PySem.W.keepIn K (.ref f_is_policy) = true)
    (a_is_device : PySem.W.nsIn K mainGlobals "is_device" = some (some (.ref f_is_device)))
    (l_is_device : K.lookup f_is_device = some ⟨oc_is_device, od_is_device, .func (PySem.W.fnOf "is_device" "is_device" (defArgs s_is_device) (defBody s_is_device) (defScope s_is_device) .none kV_is_device dc_is_device pm_is_device an_is_device cd_is_device ct_is_device), sl_is_device⟩)
    (c_is_device : PySem.W.codeIn K cd_is_device "is_device" = true)
    (k_is_device : PySem.W.keepIn K (.ref f_is_device) = true)
    (a_check_device : PySem.W.nsIn K mainGlobals "check_device" = some (some (.ref f_check_device)))
    (l_check_device : K.lookup f_check_device = some ⟨oc_check_device, od_check_device, .func (PySem.W.fnOf "check_device" "check_device" (defArgs s_check_device) (defBody s_check_device) (defScope s_check_device) .none kV_check_device dc_check_device pm_check_device an_check_device cd_check_device ct_check_device), sl_check_device⟩)
    (c_check_device : PySem.W.codeIn K cd_check_device "check_device" = true)
    (k_check_device : PySem.W.keepIn K (.ref f_check_device) = true)
    (a_Cache_init : PySem.W.findIn K (.ref C_Cache) "__init__" = some (some (.ref f_Cache_init)))
    (i_Cache_init : PySem.W.isFn K (.ref f_Cache_init) = true)
    (mk_Cache : PySem.W.makesIn K C_Cache = true)
    (kc_Cache : PySem.W.keepIn K (.ref C_Cache) = true)
    (l_Cache_init : K.lookup f_Cache_init = some ⟨oc_Cache_init, od_Cache_init, .func (PySem.W.fnOf "__init__" "Cache.__init__" (defArgs s_Cache_init) (defBody s_Cache_init) (defScope s_Cache_init) .none kV_Cache_init dc_Cache_init pm_Cache_init an_Cache_init cd_Cache_init ct_Cache_init), sl_Cache_init⟩)
    (c_Cache_init : PySem.W.codeIn K cd_Cache_init "Cache.__init__" = true)
    (k_Cache_init : PySem.W.keepIn K (.ref f_Cache_init) = true)
    (a_answers : PySem.W.nsIn K mainGlobals "answers" = some (some (.ref f_answers)))
    (l_answers : K.lookup f_answers = some ⟨oc_answers, od_answers, .func (PySem.W.fnOf "answers" "answers" (defArgs s_answers) (defBody s_answers) (defScope s_answers) .none kV_answers dc_answers pm_answers an_answers cd_answers ct_answers), sl_answers⟩)
    (c_answers : PySem.W.codeIn K cd_answers "answers" = true)
    (k_answers : PySem.W.keepIn K (.ref f_answers) = true)
    (a_count_misses : PySem.W.nsIn K mainGlobals "count_misses" = some (some (.ref f_count_misses)))
    (l_count_misses : K.lookup f_count_misses = some ⟨oc_count_misses, od_count_misses, .func (PySem.W.fnOf "count_misses" "count_misses" (defArgs s_count_misses) (defBody s_count_misses) (defScope s_count_misses) .none kV_count_misses dc_count_misses pm_count_misses an_count_misses cd_count_misses ct_count_misses), sl_count_misses⟩)
    (c_count_misses : PySem.W.codeIn K cd_count_misses "count_misses" = true)
    (k_count_misses : PySem.W.keepIn K (.ref f_count_misses) = true)
    (a_is_keeping : PySem.W.nsIn K mainGlobals "is_keeping" = some (some (.ref f_is_keeping)))
    (l_is_keeping : K.lookup f_is_keeping = some ⟨oc_is_keeping, od_is_keeping, .func (PySem.W.fnOf "is_keeping" "is_keeping" (defArgs s_is_keeping) (defBody s_is_keeping) (defScope s_is_keeping) .none kV_is_keeping dc_is_keeping pm_is_keeping an_is_keeping cd_is_keeping ct_is_keeping), sl_is_keeping⟩)
    (c_is_keeping : PySem.W.codeIn K cd_is_keeping "is_keeping" = true)
    (k_is_keeping : PySem.W.keepIn K (.ref f_is_keeping) = true)
    (a__law_later : PySem.W.nsIn K mainGlobals "_law_later" = some (some (.ref f__law_later)))
    (l__law_later : K.lookup f__law_later = some ⟨oc__law_later, od__law_later, .func (PySem.W.fnOf "_law_later" "_law_later" (defArgs s__law_later) (defBody s__law_later) (defScope s__law_later) .none kV__law_later dc__law_later pm__law_later an__law_later cd__law_later ct__law_later), sl__law_later⟩)
    (c__law_later : PySem.W.codeIn K cd__law_later "_law_later" = true)
    (k__law_later : PySem.W.keepIn K (.ref f__law_later) = true)
    (a_count_lines : PySem.W.nsIn K mainGlobals "count_lines" = some (some (.ref f_count_lines)))
    (l_count_lines : K.lookup f_count_lines = some ⟨oc_count_lines, od_count_lines, .func (PySem.W.fnOf "count_lines" "count_lines" (defArgs s_count_lines) (defBody s_count_lines) (defScope s_count_lines) .none kV_count_lines dc_count_lines pm_count_lines an_count_lines cd_count_lines ct_count_lines), sl_count_lines⟩)
    (c_count_lines : PySem.W.codeIn K cd_count_lines "count_lines" = true)
    (k_count_lines : PySem.W.keepIn K (.ref f_count_lines) = true)
    (a__law_device_right : PySem.W.nsIn K mainGlobals "_law_device_right" = some (some (.ref f__law_device_right)))
    (l__law_device_right : K.lookup f__law_device_right = some ⟨oc__law_device_right, od__law_device_right, .func (PySem.W.fnOf "_law_device_right" "_law_device_right" (defArgs s__law_device_right) (defBody s__law_device_right) (defScope s__law_device_right) .none kV__law_device_right dc__law_device_right pm__law_device_right an__law_device_right cd__law_device_right ct__law_device_right), sl__law_device_right⟩)
    (c__law_device_right : PySem.W.codeIn K cd__law_device_right "_law_device_right" = true)
    (k__law_device_right : PySem.W.keepIn K (.ref f__law_device_right) = true)
    (a__law_draw : PySem.W.nsIn K mainGlobals "_law_draw" = some (some (.ref f__law_draw)))
    (l__law_draw : K.lookup f__law_draw = some ⟨oc__law_draw, od__law_draw, .func (PySem.W.fnOf "_law_draw" "_law_draw" (defArgs s__law_draw) (defBody s__law_draw) (defScope s__law_draw) .none kV__law_draw dc__law_draw pm__law_draw an__law_draw cd__law_draw ct__law_draw), sl__law_draw⟩)
    (c__law_draw : PySem.W.codeIn K cd__law_draw "_law_draw" = true)
    (k__law_draw : PySem.W.keepIn K (.ref f__law_draw) = true)
    (a__law_row_right : PySem.W.nsIn K mainGlobals "_law_row_right" = some (some (.ref f__law_row_right)))
    (l__law_row_right : K.lookup f__law_row_right = some ⟨oc__law_row_right, od__law_row_right, .func (PySem.W.fnOf "_law_row_right" "_law_row_right" (defArgs s__law_row_right) (defBody s__law_row_right) (defScope s__law_row_right) .none kV__law_row_right dc__law_row_right pm__law_row_right an__law_row_right cd__law_row_right ct__law_row_right), sl__law_row_right⟩)
    (c__law_row_right : PySem.W.codeIn K cd__law_row_right "_law_row_right" = true)
    (k__law_row_right : PySem.W.keepIn K (.ref f__law_row_right) = true)
    (a__law_row : PySem.W.nsIn K mainGlobals "_law_row" = some (some (.ref f__law_row)))
    (l__law_row : K.lookup f__law_row = some ⟨oc__law_row, od__law_row, .func (PySem.W.fnOf "_law_row" "_law_row" (defArgs s__law_row) (defBody s__law_row) (defScope s__law_row) .none kV__law_row dc__law_row pm__law_row an__law_row cd__law_row ct__law_row), sl__law_row⟩)
    (c__law_row : PySem.W.codeIn K cd__law_row "_law_row" = true)
    (k__law_row : PySem.W.keepIn K (.ref f__law_row) = true)
    (a__law_policy : PySem.W.nsIn K mainGlobals "_law_policy" = some (some (.ref f__law_policy)))
    (l__law_policy : K.lookup f__law_policy = some ⟨oc__law_policy, od__law_policy, .func (PySem.W.fnOf "_law_policy" "_law_policy" (defArgs s__law_policy) (defBody s__law_policy) (defScope s__law_policy) .none kV__law_policy dc__law_policy pm__law_policy an__law_policy cd__law_policy ct__law_policy), sl__law_policy⟩)
    (c__law_policy : PySem.W.codeIn K cd__law_policy "_law_policy" = true)
    (k__law_policy : PySem.W.keepIn K (.ref f__law_policy) = true)
    (a__law_queue : PySem.W.nsIn K mainGlobals "_law_queue" = some (some (.ref f__law_queue)))
    (l__law_queue : K.lookup f__law_queue = some ⟨oc__law_queue, od__law_queue, .func (PySem.W.fnOf "_law_queue" "_law_queue" (defArgs s__law_queue) (defBody s__law_queue) (defScope s__law_queue) .none kV__law_queue dc__law_queue pm__law_queue an__law_queue cd__law_queue ct__law_queue), sl__law_queue⟩)
    (c__law_queue : PySem.W.codeIn K cd__law_queue "_law_queue" = true)
    (k__law_queue : PySem.W.keepIn K (.ref f__law_queue) = true)
    (a__law_recent : PySem.W.nsIn K mainGlobals "_law_recent" = some (some (.ref f__law_recent)))
    (l__law_recent : K.lookup f__law_recent = some ⟨oc__law_recent, od__law_recent, .func (PySem.W.fnOf "_law_recent" "_law_recent" (defArgs s__law_recent) (defBody s__law_recent) (defScope s__law_recent) .none kV__law_recent dc__law_recent pm__law_recent an__law_recent cd__law_recent ct__law_recent), sl__law_recent⟩)
    (c__law_recent : PySem.W.codeIn K cd__law_recent "_law_recent" = true)
    (k__law_recent : PySem.W.keepIn K (.ref f__law_recent) = true)
    (a__law_device : PySem.W.nsIn K mainGlobals "_law_device" = some (some (.ref f__law_device)))
    (l__law_device : K.lookup f__law_device = some ⟨oc__law_device, od__law_device, .func (PySem.W.fnOf "_law_device" "_law_device" (defArgs s__law_device) (defBody s__law_device) (defScope s__law_device) .none kV__law_device dc__law_device pm__law_device an__law_device cd__law_device ct__law_device), sl__law_device⟩)
    (c__law_device : PySem.W.codeIn K cd__law_device "_law_device" = true)
    (k__law_device : PySem.W.keepIn K (.ref f__law_device) = true)
    (a__law_kit : PySem.W.nsIn K mainGlobals "_law_kit" = some (some (.ref f__law_kit)))
    (l__law_kit : K.lookup f__law_kit = some ⟨oc__law_kit, od__law_kit, .func (PySem.W.fnOf "_law_kit" "_law_kit" (defArgs s__law_kit) (defBody s__law_kit) (defScope s__law_kit) .none kV__law_kit dc__law_kit pm__law_kit an__law_kit cd__law_kit ct__law_kit), sl__law_kit⟩)
    (c__law_kit : PySem.W.codeIn K cd__law_kit "_law_kit" = true)
    (k__law_kit : PySem.W.keepIn K (.ref f__law_kit) = true)
    (a__law_right : PySem.W.nsIn K mainGlobals "_law_right" = some (some (.ref f__law_right)))
    (l__law_right : K.lookup f__law_right = some ⟨oc__law_right, od__law_right, .func (PySem.W.fnOf "_law_right" "_law_right" (defArgs s__law_right) (defBody s__law_right) (defScope s__law_right) .none kV__law_right dc__law_right pm__law_right an__law_right cd__law_right ct__law_right), sl__law_right⟩)
    (c__law_right : PySem.W.codeIn K cd__law_right "_law_right" = true)
    (k__law_right : PySem.W.keepIn K (.ref f__law_right) = true)
    (a__law_pool : PySem.W.nsIn K mainGlobals "_law_pool" = some (some (.ref f__law_pool)))
    (l__law_pool : K.lookup f__law_pool = some ⟨oc__law_pool, od__law_pool, .func (PySem.W.fnOf "_law_pool" "_law_pool" (defArgs s__law_pool) (defBody s__law_pool) (defScope s__law_pool) .none kV__law_pool dc__law_pool pm__law_pool an__law_pool cd__law_pool ct__law_pool), sl__law_pool⟩)
    (c__law_pool : PySem.W.codeIn K cd__law_pool "_law_pool" = true)
    (k__law_pool : PySem.W.keepIn K (.ref f__law_pool) = true)
    (a__law_cell : PySem.W.nsIn K mainGlobals "_law_cell" = some (some (.ref f__law_cell)))
    (l__law_cell : K.lookup f__law_cell = some ⟨oc__law_cell, od__law_cell, .func (PySem.W.fnOf "_law_cell" "_law_cell" (defArgs s__law_cell) (defBody s__law_cell) (defScope s__law_cell) .none kV__law_cell dc__law_cell pm__law_cell an__law_cell cd__law_cell ct__law_cell), sl__law_cell⟩)
    (c__law_cell : PySem.W.codeIn K cd__law_cell "_law_cell" = true)
    (k__law_cell : PySem.W.keepIn K (.ref f__law_cell) = true)
    (a_law : PySem.W.nsIn K mainGlobals "law" = some (some (.ref f_law)))
    (l_law : K.lookup f_law = some ⟨oc_law, od_law, .func (PySem.W.fnOf "law" "law" (defArgs s_law) (defBody s_law) (defScope s_law) .none kV_law dc_law pm_law an_law cd_law ct_law), sl_law⟩)
    (c_law : PySem.W.codeIn K cd_law "law" = true)
    (k_law : PySem.W.keepIn K (.ref f_law) = true)
    (na_Box_mode : PySem.W.findIn K (.ref C_Box) "mode" = some none)
    (na_Box_policies : PySem.W.findIn K (.ref C_Box) "policies" = some none)
    (na_Box_rows : PySem.W.findIn K (.ref C_Box) "rows" = some none)
    (na_Box_stages : PySem.W.findIn K (.ref C_Box) "stages" = some none)
    (na_Cache_box : PySem.W.findIn K (.ref C_Cache) "box" = some none)
    (na_Cache_hit_number : PySem.W.findIn K (.ref C_Cache) "hit_number" = some none)
    (na_Cache_miss_number : PySem.W.findIn K (.ref C_Cache) "miss_number" = some none)
    (na_Cache_pattern : PySem.W.findIn K (.ref C_Cache) "pattern" = some none)
    (z_abs : PySem.W.nsIn K mainGlobals "abs" = some none)
    (z_all : PySem.W.nsIn K mainGlobals "all" = some none)
    (z_any : PySem.W.nsIn K mainGlobals "any" = some none)
    (z_bool : PySem.W.nsIn K mainGlobals "bool" = some none)
    (z_divmod : PySem.W.nsIn K mainGlobals "divmod" = some none)
    (z_enumerate : PySem.W.nsIn K mainGlobals "enumerate" = some none)
    (z_int : PySem.W.nsIn K mainGlobals "int" = some none)
    (z_isinstance : PySem.W.nsIn K mainGlobals "isinstance" = some none)
    (z_len : PySem.W.nsIn K mainGlobals "len" = some none)
    (z_list : PySem.W.nsIn K mainGlobals "list" = some none)
    (z_max : PySem.W.nsIn K mainGlobals "max" = some none)
    (z_min : PySem.W.nsIn K mainGlobals "min" = some none)
    (z_range : PySem.W.nsIn K mainGlobals "range" = some none)
    (z_set : PySem.W.nsIn K mainGlobals "set" = some none)
    (z_sorted : PySem.W.nsIn K mainGlobals "sorted" = some none)
    (z_str : PySem.W.nsIn K mainGlobals "str" = some none)
    (z_sum : PySem.W.nsIn K mainGlobals "sum" = some none)
    (z_tuple : PySem.W.nsIn K mainGlobals "tuple" = some none)
    (g_LETTERS : PySem.W.nsIn K mainGlobals "LETTERS" = some (some (.str "abcdefghijklmnopqrstuvwxyz" gt_LETTERS)))
    (g_LEVELS : PySem.W.nsIn K mainGlobals "LEVELS" = some (some (.ref ga_LEVELS)))
    (gl_LEVELS : K.lookup ga_LEVELS = some ⟨.type "tuple", none, .seq #[Value.str "plain" gt0_LEVELS, Value.str "inclusive" gt1_LEVELS, Value.str "victim" gt2_LEVELS] gn_LEVELS, gs_LEVELS⟩)
    (g_LONGEST : PySem.W.nsIn K mainGlobals "LONGEST" = some (some (.int 6 gt_LONGEST)))
    (g_MOST_KEPT : PySem.W.nsIn K mainGlobals "MOST_KEPT" = some (some (.int 200 gt_MOST_KEPT)))
    (g_MOST_LINES : PySem.W.nsIn K mainGlobals "MOST_LINES" = some (some (.int 4 gt_MOST_LINES)))
    (g_MOST_REQUESTS : PySem.W.nsIn K mainGlobals "MOST_REQUESTS" = some (some (.int 2000 gt_MOST_REQUESTS)))
    (g_MOST_STATES : PySem.W.nsIn K mainGlobals "MOST_STATES" = some (some (.int 64 gt_MOST_STATES))) :
    ∃ T : Top K mg, T.f_law = fa ∧ ∀ (s : Shared) (v : Value), BindsTo s T.d_law ⟨[v], []⟩ [("_law_script", v)] :=
  ⟨{ C_Box := C_Box,
     cl_Box := ⟨pg_Box, hd_Box, po_Box, sa_Box⟩,
     mC_Box := PySem.W.mg_of X G aC_Box,
     C_Cache := C_Cache,
     cl_Cache := ⟨pg_Cache, hd_Cache, po_Cache, sa_Cache⟩,
     mC_Cache := PySem.W.mg_of X G aC_Cache,
     f_Cache_note_answer := f_Cache_note_answer,
     d_Cache_note_answer := PySem.W.fnOf "note_answer" "Cache.note_answer" (defArgs s_Cache_note_answer) (defBody s_Cache_note_answer) (defScope s_Cache_note_answer) .none kV_Cache_note_answer dc_Cache_note_answer pm_Cache_note_answer an_Cache_note_answer cd_Cache_note_answer ct_Cache_note_answer,
     F_Cache_note_answer := fun_mk (st := s_Cache_note_answer) l_Cache_note_answer c_Cache_note_answer k_Cache_note_answer,
     b_Cache_note_answer := (fun_mk (st := s_Cache_note_answer) l_Cache_note_answer c_Cache_note_answer k_Cache_note_answer).binds (ps := ["self", "answer"]) fun _ _ _ _ _ _ us hl => match us, hl with | [_, _], _ => rfl,
     me_Cache_note_answer := ⟨a_Cache_note_answer, i_Cache_note_answer, k_Cache_note_answer⟩,
     f_Box_told := f_Box_told,
     d_Box_told := PySem.W.fnOf "told" "Box.told" (defArgs s_Box_told) (defBody s_Box_told) (defScope s_Box_told) .none kV_Box_told dc_Box_told pm_Box_told an_Box_told cd_Box_told ct_Box_told,
     F_Box_told := fun_mk (st := s_Box_told) l_Box_told c_Box_told k_Box_told,
     b_Box_told := (fun_mk (st := s_Box_told) l_Box_told c_Box_told k_Box_told).binds (ps := ["self", "level"]) fun _ _ _ _ _ _ us hl => match us, hl with | [_, _], _ => rfl,
     me_Box_told := ⟨a_Box_told, i_Box_told, k_Box_told⟩,
     f_Box_touch := f_Box_touch,
     d_Box_touch := PySem.W.fnOf "touch" "Box.touch" (defArgs s_Box_touch) (defBody s_Box_touch) (defScope s_Box_touch) .none kV_Box_touch dc_Box_touch pm_Box_touch an_Box_touch cd_Box_touch ct_Box_touch,
     F_Box_touch := fun_mk (st := s_Box_touch) l_Box_touch c_Box_touch k_Box_touch,
     b_Box_touch := (fun_mk (st := s_Box_touch) l_Box_touch c_Box_touch k_Box_touch).binds (ps := ["self", "level", "line"]) fun _ _ _ _ _ _ us hl => match us, hl with | [_, _, _], _ => rfl,
     me_Box_touch := ⟨a_Box_touch, i_Box_touch, k_Box_touch⟩,
     f_Box_fill := f_Box_fill,
     d_Box_fill := PySem.W.fnOf "fill" "Box.fill" (defArgs s_Box_fill) (defBody s_Box_fill) (defScope s_Box_fill) .none kV_Box_fill dc_Box_fill pm_Box_fill an_Box_fill cd_Box_fill ct_Box_fill,
     F_Box_fill := fun_mk (st := s_Box_fill) l_Box_fill c_Box_fill k_Box_fill,
     b_Box_fill := (fun_mk (st := s_Box_fill) l_Box_fill c_Box_fill k_Box_fill).binds (ps := ["self", "level", "name"]) fun _ _ _ _ _ _ us hl => match us, hl with | [_, _, _], _ => rfl,
     me_Box_fill := ⟨a_Box_fill, i_Box_fill, k_Box_fill⟩,
     f_Box_go_down := f_Box_go_down,
     d_Box_go_down := PySem.W.fnOf "go_down" "Box.go_down" (defArgs s_Box_go_down) (defBody s_Box_go_down) (defScope s_Box_go_down) .none kV_Box_go_down dc_Box_go_down pm_Box_go_down an_Box_go_down cd_Box_go_down ct_Box_go_down,
     F_Box_go_down := fun_mk (st := s_Box_go_down) l_Box_go_down c_Box_go_down k_Box_go_down,
     b_Box_go_down := (fun_mk (st := s_Box_go_down) l_Box_go_down c_Box_go_down k_Box_go_down).binds (ps := ["self", "name", "gone"]) fun _ _ _ _ _ _ us hl => match us, hl with | [_, _, _], _ => rfl,
     me_Box_go_down := ⟨a_Box_go_down, i_Box_go_down, k_Box_go_down⟩,
     f_Box_holds := f_Box_holds,
     d_Box_holds := PySem.W.fnOf "holds" "Box.holds" (defArgs s_Box_holds) (defBody s_Box_holds) (defScope s_Box_holds) .none kV_Box_holds dc_Box_holds pm_Box_holds an_Box_holds cd_Box_holds ct_Box_holds,
     F_Box_holds := fun_mk (st := s_Box_holds) l_Box_holds c_Box_holds k_Box_holds,
     b_Box_holds := (fun_mk (st := s_Box_holds) l_Box_holds c_Box_holds k_Box_holds).binds (ps := ["self", "name"]) fun _ _ _ _ _ _ us hl => match us, hl with | [_, _], _ => rfl,
     me_Box_holds := ⟨a_Box_holds, i_Box_holds, k_Box_holds⟩,
     f_Box_ask := f_Box_ask,
     d_Box_ask := PySem.W.fnOf "ask" "Box.ask" (defArgs s_Box_ask) (defBody s_Box_ask) (defScope s_Box_ask) .none kV_Box_ask dc_Box_ask pm_Box_ask an_Box_ask cd_Box_ask ct_Box_ask,
     F_Box_ask := fun_mk (st := s_Box_ask) l_Box_ask c_Box_ask k_Box_ask,
     b_Box_ask := (fun_mk (st := s_Box_ask) l_Box_ask c_Box_ask k_Box_ask).binds (ps := ["self", "name"]) fun _ _ _ _ _ _ us hl => match us, hl with | [_, _], _ => rfl,
     me_Box_ask := ⟨a_Box_ask, i_Box_ask, k_Box_ask⟩,
     f_is_name := f_is_name,
     d_is_name := PySem.W.fnOf "is_name" "is_name" (defArgs s_is_name) (defBody s_is_name) (defScope s_is_name) .none kV_is_name dc_is_name pm_is_name an_is_name cd_is_name ct_is_name,
     F_is_name := fun_mk (st := s_is_name) l_is_name c_is_name k_is_name,
     b_is_name := (fun_mk (st := s_is_name) l_is_name c_is_name k_is_name).binds (ps := ["value"]) fun _ _ _ _ _ _ us hl => match us, hl with | [_], _ => rfl,
     m_is_name := PySem.W.mg_of X G a_is_name,
     f_check_name := f_check_name,
     d_check_name := PySem.W.fnOf "check_name" "check_name" (defArgs s_check_name) (defBody s_check_name) (defScope s_check_name) .none kV_check_name dc_check_name pm_check_name an_check_name cd_check_name ct_check_name,
     F_check_name := fun_mk (st := s_check_name) l_check_name c_check_name k_check_name,
     b_check_name := (fun_mk (st := s_check_name) l_check_name c_check_name k_check_name).binds (ps := ["name"]) fun _ _ _ _ _ _ us hl => match us, hl with | [_], _ => rfl,
     m_check_name := PySem.W.mg_of X G a_check_name,
     f_Cache_request := f_Cache_request,
     d_Cache_request := PySem.W.fnOf "request" "Cache.request" (defArgs s_Cache_request) (defBody s_Cache_request) (defScope s_Cache_request) .none kV_Cache_request dc_Cache_request pm_Cache_request an_Cache_request cd_Cache_request ct_Cache_request,
     F_Cache_request := fun_mk (st := s_Cache_request) l_Cache_request c_Cache_request k_Cache_request,
     b_Cache_request := (fun_mk (st := s_Cache_request) l_Cache_request c_Cache_request k_Cache_request).binds (ps := ["self", "name"]) fun _ _ _ _ _ _ us hl => match us, hl with | [_, _], _ => rfl,
     me_Cache_request := ⟨a_Cache_request, i_Cache_request, k_Cache_request⟩,
     f_Cache_misses := f_Cache_misses,
     d_Cache_misses := PySem.W.fnOf "misses" "Cache.misses" (defArgs s_Cache_misses) (defBody s_Cache_misses) (defScope s_Cache_misses) .none kV_Cache_misses dc_Cache_misses pm_Cache_misses an_Cache_misses cd_Cache_misses ct_Cache_misses,
     F_Cache_misses := fun_mk (st := s_Cache_misses) l_Cache_misses c_Cache_misses k_Cache_misses,
     b_Cache_misses := (fun_mk (st := s_Cache_misses) l_Cache_misses c_Cache_misses k_Cache_misses).binds (ps := ["self"]) fun _ _ _ _ _ _ us hl => match us, hl with | [_], _ => rfl,
     p_Cache_misses := p_Cache_misses,
     pr_Cache_misses := ⟨a_Cache_misses, pe_Cache_misses, pt_Cache_misses, _, pr_Cache_misses⟩,
     f_next_requests := f_next_requests,
     d_next_requests := PySem.W.fnOf "next_requests" "next_requests" (defArgs s_next_requests) (defBody s_next_requests) (defScope s_next_requests) .none kV_next_requests dc_next_requests pm_next_requests an_next_requests cd_next_requests ct_next_requests,
     F_next_requests := fun_mk (st := s_next_requests) l_next_requests c_next_requests k_next_requests,
     b_next_requests := (fun_mk (st := s_next_requests) l_next_requests c_next_requests k_next_requests).binds (ps := ["names"]) fun _ _ _ _ _ _ us hl => match us, hl with | [_], _ => rfl,
     m_next_requests := PySem.W.mg_of X G a_next_requests,
     f_is_integer := f_is_integer,
     d_is_integer := PySem.W.fnOf "is_integer" "is_integer" (defArgs s_is_integer) (defBody s_is_integer) (defScope s_is_integer) .none kV_is_integer dc_is_integer pm_is_integer an_is_integer cd_is_integer ct_is_integer,
     F_is_integer := fun_mk (st := s_is_integer) l_is_integer c_is_integer k_is_integer,
     b_is_integer := (fun_mk (st := s_is_integer) l_is_integer c_is_integer k_is_integer).binds (ps := ["value"]) fun _ _ _ _ _ _ us hl => match us, hl with | [_], _ => rfl,
     m_is_integer := PySem.W.mg_of X G a_is_integer,
     f_is_between := f_is_between,
     d_is_between := PySem.W.fnOf "is_between" "is_between" (defArgs s_is_between) (defBody s_is_between) (defScope s_is_between) .none kV_is_between dc_is_between pm_is_between an_is_between cd_is_between ct_is_between,
     F_is_between := fun_mk (st := s_is_between) l_is_between c_is_between k_is_between,
     b_is_between := (fun_mk (st := s_is_between) l_is_between c_is_between k_is_between).binds (ps := ["value", "least", "greatest"]) fun _ _ _ _ _ _ us hl => match us, hl with | [_, _, _], _ => rfl,
     m_is_between := PySem.W.mg_of X G a_is_between,
     f_check_lines := f_check_lines,
     d_check_lines := PySem.W.fnOf "check_lines" "check_lines" (defArgs s_check_lines) (defBody s_check_lines) (defScope s_check_lines) .none kV_check_lines dc_check_lines pm_check_lines an_check_lines cd_check_lines ct_check_lines,
     F_check_lines := fun_mk (st := s_check_lines) l_check_lines c_check_lines k_check_lines,
     b_check_lines := (fun_mk (st := s_check_lines) l_check_lines c_check_lines k_check_lines).binds (ps := ["lines"]) fun _ _ _ _ _ _ us hl => match us, hl with | [_], _ => rfl,
     m_check_lines := PySem.W.mg_of X G a_check_lines,
     f_check_history := f_check_history,
     d_check_history := PySem.W.fnOf "check_history" "check_history" (defArgs s_check_history) (defBody s_check_history) (defScope s_check_history) .none kV_check_history dc_check_history pm_check_history an_check_history cd_check_history ct_check_history,
     F_check_history := fun_mk (st := s_check_history) l_check_history c_check_history k_check_history,
     b_check_history := (fun_mk (st := s_check_history) l_check_history c_check_history k_check_history).binds (ps := ["names"]) fun _ _ _ _ _ _ us hl => match us, hl with | [_], _ => rfl,
     m_check_history := PySem.W.mg_of X G a_check_history,
     f_check_asked := f_check_asked,
     d_check_asked := PySem.W.fnOf "check_asked" "check_asked" (defArgs s_check_asked) (defBody s_check_asked) (defScope s_check_asked) .none kV_check_asked dc_check_asked pm_check_asked an_check_asked cd_check_asked ct_check_asked,
     F_check_asked := fun_mk (st := s_check_asked) l_check_asked c_check_asked k_check_asked,
     b_check_asked := (fun_mk (st := s_check_asked) l_check_asked c_check_asked k_check_asked).binds (ps := ["names", "lines"]) fun _ _ _ _ _ _ us hl => match us, hl with | [_, _], _ => rfl,
     m_check_asked := PySem.W.mg_of X G a_check_asked,
     f_best_keeping := f_best_keeping,
     d_best_keeping := PySem.W.fnOf "best_keeping" "best_keeping" (defArgs s_best_keeping) (defBody s_best_keeping) (defScope s_best_keeping) .none kV_best_keeping dc_best_keeping pm_best_keeping an_best_keeping cd_best_keeping ct_best_keeping,
     F_best_keeping := fun_mk (st := s_best_keeping) l_best_keeping c_best_keeping k_best_keeping,
     b_best_keeping := (fun_mk (st := s_best_keeping) l_best_keeping c_best_keeping k_best_keeping).binds (ps := ["names", "lines"]) fun _ _ _ _ _ _ us hl => match us, hl with | [_, _], _ => rfl,
     m_best_keeping := PySem.W.mg_of X G a_best_keeping,
     f_least_misses := f_least_misses,
     d_least_misses := PySem.W.fnOf "least_misses" "least_misses" (defArgs s_least_misses) (defBody s_least_misses) (defScope s_least_misses) .none kV_least_misses dc_least_misses pm_least_misses an_least_misses cd_least_misses ct_least_misses,
     F_least_misses := fun_mk (st := s_least_misses) l_least_misses c_least_misses k_least_misses,
     b_least_misses := (fun_mk (st := s_least_misses) l_least_misses c_least_misses k_least_misses).binds (ps := ["names", "lines"]) fun _ _ _ _ _ _ us hl => match us, hl with | [_, _], _ => rfl,
     m_least_misses := PySem.W.mg_of X G a_least_misses,
     f_Box_init := f_Box_init,
     d_Box_init := PySem.W.fnOf "__init__" "Box.__init__" (defArgs s_Box_init) (defBody s_Box_init) (defScope s_Box_init) .none kV_Box_init dc_Box_init pm_Box_init an_Box_init cd_Box_init ct_Box_init,
     F_Box_init := fun_mk (st := s_Box_init) l_Box_init c_Box_init k_Box_init,
     b_Box_init := (fun_mk (st := s_Box_init) l_Box_init c_Box_init k_Box_init).binds (ps := ["self", "device"]) fun _ _ _ _ _ _ us hl => match us, hl with | [_, _], _ => rfl,
     mk_Box := ⟨mk_Box, a_Box_init, i_Box_init, kc_Box⟩,
     f_is_row := f_is_row,
     d_is_row := PySem.W.fnOf "is_row" "is_row" (defArgs s_is_row) (defBody s_is_row) (defScope s_is_row) .none kV_is_row dc_is_row pm_is_row an_is_row cd_is_row ct_is_row,
     F_is_row := fun_mk (st := s_is_row) l_is_row c_is_row k_is_row,
     b_is_row := (fun_mk (st := s_is_row) l_is_row c_is_row k_is_row).binds (ps := ["value", "lines", "states"]) fun _ _ _ _ _ _ us hl => match us, hl with | [_, _, _], _ => rfl,
     m_is_row := PySem.W.mg_of X G a_is_row,
     f_is_policy := f_is_policy,
     d_is_policy := PySem.W.fnOf "is_policy" "is_policy" (defArgs s_is_policy) (defBody s_is_policy) (defScope s_is_policy) .none kV_is_policy dc_is_policy pm_is_policy an_is_policy cd_is_policy ct_is_policy,
     F_is_policy := fun_mk (st := s_is_policy) l_is_policy c_is_policy k_is_policy,
     b_is_policy := (fun_mk (st := s_is_policy) l_is_policy c_is_policy k_is_policy).binds (ps := ["value"]) fun _ _ _ _ _ _ us hl => match us, hl with | [_], _ => rfl,
     m_is_policy := PySem.W.mg_of X G a_is_policy,
     f_is_device := f_is_device,
     d_is_device := PySem.W.fnOf "is_device" "is_device" (defArgs s_is_device) (defBody s_is_device) (defScope s_is_device) .none kV_is_device dc_is_device pm_is_device an_is_device cd_is_device ct_is_device,
     F_is_device := fun_mk (st := s_is_device) l_is_device c_is_device k_is_device,
     b_is_device := (fun_mk (st := s_is_device) l_is_device c_is_device k_is_device).binds (ps := ["value"]) fun _ _ _ _ _ _ us hl => match us, hl with | [_], _ => rfl,
     m_is_device := PySem.W.mg_of X G a_is_device,
     f_check_device := f_check_device,
     d_check_device := PySem.W.fnOf "check_device" "check_device" (defArgs s_check_device) (defBody s_check_device) (defScope s_check_device) .none kV_check_device dc_check_device pm_check_device an_check_device cd_check_device ct_check_device,
     F_check_device := fun_mk (st := s_check_device) l_check_device c_check_device k_check_device,
     b_check_device := (fun_mk (st := s_check_device) l_check_device c_check_device k_check_device).binds (ps := ["device"]) fun _ _ _ _ _ _ us hl => match us, hl with | [_], _ => rfl,
     m_check_device := PySem.W.mg_of X G a_check_device,
     f_Cache_init := f_Cache_init,
     d_Cache_init := PySem.W.fnOf "__init__" "Cache.__init__" (defArgs s_Cache_init) (defBody s_Cache_init) (defScope s_Cache_init) .none kV_Cache_init dc_Cache_init pm_Cache_init an_Cache_init cd_Cache_init ct_Cache_init,
     F_Cache_init := fun_mk (st := s_Cache_init) l_Cache_init c_Cache_init k_Cache_init,
     b_Cache_init := (fun_mk (st := s_Cache_init) l_Cache_init c_Cache_init k_Cache_init).binds (ps := ["self", "device"]) fun _ _ _ _ _ _ us hl => match us, hl with | [_, _], _ => rfl,
     mk_Cache := ⟨mk_Cache, a_Cache_init, i_Cache_init, kc_Cache⟩,
     f_answers := f_answers,
     d_answers := PySem.W.fnOf "answers" "answers" (defArgs s_answers) (defBody s_answers) (defScope s_answers) .none kV_answers dc_answers pm_answers an_answers cd_answers ct_answers,
     F_answers := fun_mk (st := s_answers) l_answers c_answers k_answers,
     b_answers := (fun_mk (st := s_answers) l_answers c_answers k_answers).binds (ps := ["device", "names"]) fun _ _ _ _ _ _ us hl => match us, hl with | [_, _], _ => rfl,
     m_answers := PySem.W.mg_of X G a_answers,
     f_count_misses := f_count_misses,
     d_count_misses := PySem.W.fnOf "count_misses" "count_misses" (defArgs s_count_misses) (defBody s_count_misses) (defScope s_count_misses) .none kV_count_misses dc_count_misses pm_count_misses an_count_misses cd_count_misses ct_count_misses,
     F_count_misses := fun_mk (st := s_count_misses) l_count_misses c_count_misses k_count_misses,
     b_count_misses := (fun_mk (st := s_count_misses) l_count_misses c_count_misses k_count_misses).binds (ps := ["device", "names"]) fun _ _ _ _ _ _ us hl => match us, hl with | [_, _], _ => rfl,
     m_count_misses := PySem.W.mg_of X G a_count_misses,
     f_is_keeping := f_is_keeping,
     d_is_keeping := PySem.W.fnOf "is_keeping" "is_keeping" (defArgs s_is_keeping) (defBody s_is_keeping) (defScope s_is_keeping) .none kV_is_keeping dc_is_keeping pm_is_keeping an_is_keeping cd_is_keeping ct_is_keeping,
     F_is_keeping := fun_mk (st := s_is_keeping) l_is_keeping c_is_keeping k_is_keeping,
     b_is_keeping := (fun_mk (st := s_is_keeping) l_is_keeping c_is_keeping k_is_keeping).binds (ps := ["names", "lines", "value"]) fun _ _ _ _ _ _ us hl => match us, hl with | [_, _, _], _ => rfl,
     m_is_keeping := PySem.W.mg_of X G a_is_keeping,
     f__law_later := f__law_later,
     d__law_later := PySem.W.fnOf "_law_later" "_law_later" (defArgs s__law_later) (defBody s__law_later) (defScope s__law_later) .none kV__law_later dc__law_later pm__law_later an__law_later cd__law_later ct__law_later,
     F__law_later := fun_mk (st := s__law_later) l__law_later c__law_later k__law_later,
     b__law_later := (fun_mk (st := s__law_later) l__law_later c__law_later k__law_later).binds (ps := ["_law_row_here"]) fun _ _ _ _ _ _ us hl => match us, hl with | [_], _ => rfl,
     m__law_later := PySem.W.mg_of X G a__law_later,
     f_count_lines := f_count_lines,
     d_count_lines := PySem.W.fnOf "count_lines" "count_lines" (defArgs s_count_lines) (defBody s_count_lines) (defScope s_count_lines) .none kV_count_lines dc_count_lines pm_count_lines an_count_lines cd_count_lines ct_count_lines,
     F_count_lines := fun_mk (st := s_count_lines) l_count_lines c_count_lines k_count_lines,
     b_count_lines := (fun_mk (st := s_count_lines) l_count_lines c_count_lines k_count_lines).binds (ps := ["device"]) fun _ _ _ _ _ _ us hl => match us, hl with | [_], _ => rfl,
     m_count_lines := PySem.W.mg_of X G a_count_lines,
     f__law_device_right := f__law_device_right,
     d__law_device_right := PySem.W.fnOf "_law_device_right" "_law_device_right" (defArgs s__law_device_right) (defBody s__law_device_right) (defScope s__law_device_right) .none kV__law_device_right dc__law_device_right pm__law_device_right an__law_device_right cd__law_device_right ct__law_device_right,
     F__law_device_right := fun_mk (st := s__law_device_right) l__law_device_right c__law_device_right k__law_device_right,
     b__law_device_right := (fun_mk (st := s__law_device_right) l__law_device_right c__law_device_right k__law_device_right).binds (ps := ["_law_unit", "_law_row_here"]) fun _ _ _ _ _ _ us hl => match us, hl with | [_, _], _ => rfl,
     m__law_device_right := PySem.W.mg_of X G a__law_device_right,
     f__law_draw := f__law_draw,
     d__law_draw := PySem.W.fnOf "_law_draw" "_law_draw" (defArgs s__law_draw) (defBody s__law_draw) (defScope s__law_draw) .none kV__law_draw dc__law_draw pm__law_draw an__law_draw cd__law_draw ct__law_draw,
     F__law_draw := fun_mk (st := s__law_draw) l__law_draw c__law_draw k__law_draw,
     b__law_draw := (fun_mk (st := s__law_draw) l__law_draw c__law_draw k__law_draw).binds (ps := ["_law_pool_here", "_law_most"]) fun _ _ _ _ _ _ us hl => match us, hl with | [_, _], _ => rfl,
     m__law_draw := PySem.W.mg_of X G a__law_draw,
     f__law_row_right := f__law_row_right,
     d__law_row_right := PySem.W.fnOf "_law_row_right" "_law_row_right" (defArgs s__law_row_right) (defBody s__law_row_right) (defScope s__law_row_right) .none kV__law_row_right dc__law_row_right pm__law_row_right an__law_row_right cd__law_row_right ct__law_row_right,
     F__law_row_right := fun_mk (st := s__law_row_right) l__law_row_right c__law_row_right k__law_row_right,
     b__law_row_right := (fun_mk (st := s__law_row_right) l__law_row_right c__law_row_right k__law_row_right).binds (ps := ["_law_pool_here", "_law_row_here"]) fun _ _ _ _ _ _ us hl => match us, hl with | [_, _], _ => rfl,
     m__law_row_right := PySem.W.mg_of X G a__law_row_right,
     f__law_row := f__law_row,
     d__law_row := PySem.W.fnOf "_law_row" "_law_row" (defArgs s__law_row) (defBody s__law_row) (defScope s__law_row) .none kV__law_row dc__law_row pm__law_row an__law_row cd__law_row ct__law_row,
     F__law_row := fun_mk (st := s__law_row) l__law_row c__law_row k__law_row,
     b__law_row := (fun_mk (st := s__law_row) l__law_row c__law_row k__law_row).binds (ps := ["_law_pool_here", "_law_many", "_law_most"]) fun _ _ _ _ _ _ us hl => match us, hl with | [_, _, _], _ => rfl,
     m__law_row := PySem.W.mg_of X G a__law_row,
     f__law_policy := f__law_policy,
     d__law_policy := PySem.W.fnOf "_law_policy" "_law_policy" (defArgs s__law_policy) (defBody s__law_policy) (defScope s__law_policy) .none kV__law_policy dc__law_policy pm__law_policy an__law_policy cd__law_policy ct__law_policy,
     F__law_policy := fun_mk (st := s__law_policy) l__law_policy c__law_policy k__law_policy,
     b__law_policy := (fun_mk (st := s__law_policy) l__law_policy c__law_policy k__law_policy).binds (ps := ["_law_pool_here", "_law_lines", "_law_states"]) fun _ _ _ _ _ _ us hl => match us, hl with | [_, _, _], _ => rfl,
     m__law_policy := PySem.W.mg_of X G a__law_policy,
     f__law_queue := f__law_queue,
     d__law_queue := PySem.W.fnOf "_law_queue" "_law_queue" (defArgs s__law_queue) (defBody s__law_queue) (defScope s__law_queue) .none kV__law_queue dc__law_queue pm__law_queue an__law_queue cd__law_queue ct__law_queue,
     F__law_queue := fun_mk (st := s__law_queue) l__law_queue c__law_queue k__law_queue,
     b__law_queue := (fun_mk (st := s__law_queue) l__law_queue c__law_queue k__law_queue).binds (ps := ["_law_lines"]) fun _ _ _ _ _ _ us hl => match us, hl with | [_], _ => rfl,
     m__law_queue := PySem.W.mg_of X G a__law_queue,
     f__law_recent := f__law_recent,
     d__law_recent := PySem.W.fnOf "_law_recent" "_law_recent" (defArgs s__law_recent) (defBody s__law_recent) (defScope s__law_recent) .none kV__law_recent dc__law_recent pm__law_recent an__law_recent cd__law_recent ct__law_recent,
     F__law_recent := fun_mk (st := s__law_recent) l__law_recent c__law_recent k__law_recent,
     b__law_recent := (fun_mk (st := s__law_recent) l__law_recent c__law_recent k__law_recent).binds (ps := ["_law_lines"]) fun _ _ _ _ _ _ us hl => match us, hl with | [_], _ => rfl,
     m__law_recent := PySem.W.mg_of X G a__law_recent,
     f__law_device := f__law_device,
     d__law_device := PySem.W.fnOf "_law_device" "_law_device" (defArgs s__law_device) (defBody s__law_device) (defScope s__law_device) .none kV__law_device dc__law_device pm__law_device an__law_device cd__law_device ct__law_device,
     F__law_device := fun_mk (st := s__law_device) l__law_device c__law_device k__law_device,
     b__law_device := (fun_mk (st := s__law_device) l__law_device c__law_device k__law_device).binds (ps := ["_law_pool_here", "_law_most", "_law_states"]) fun _ _ _ _ _ _ us hl => match us, hl with | [_, _, _], _ => rfl,
     m__law_device := PySem.W.mg_of X G a__law_device,
     f__law_kit := f__law_kit,
     d__law_kit := PySem.W.fnOf "_law_kit" "_law_kit" (defArgs s__law_kit) (defBody s__law_kit) (defScope s__law_kit) .none kV__law_kit dc__law_kit pm__law_kit an__law_kit cd__law_kit ct__law_kit,
     F__law_kit := fun_mk (st := s__law_kit) l__law_kit c__law_kit k__law_kit,
     b__law_kit := (fun_mk (st := s__law_kit) l__law_kit c__law_kit k__law_kit).binds (ps := ["_law_pool_here"]) fun _ _ _ _ _ _ us hl => match us, hl with | [_], _ => rfl,
     m__law_kit := PySem.W.mg_of X G a__law_kit,
     f__law_right := f__law_right,
     d__law_right := PySem.W.fnOf "_law_right" "_law_right" (defArgs s__law_right) (defBody s__law_right) (defScope s__law_right) .none kV__law_right dc__law_right pm__law_right an__law_right cd__law_right ct__law_right,
     F__law_right := fun_mk (st := s__law_right) l__law_right c__law_right k__law_right,
     b__law_right := (fun_mk (st := s__law_right) l__law_right c__law_right k__law_right).binds (ps := ["_law_pool_here"]) fun _ _ _ _ _ _ us hl => match us, hl with | [_], _ => rfl,
     m__law_right := PySem.W.mg_of X G a__law_right,
     f__law_pool := f__law_pool,
     d__law_pool := PySem.W.fnOf "_law_pool" "_law_pool" (defArgs s__law_pool) (defBody s__law_pool) (defScope s__law_pool) .none kV__law_pool dc__law_pool pm__law_pool an__law_pool cd__law_pool ct__law_pool,
     F__law_pool := fun_mk (st := s__law_pool) l__law_pool c__law_pool k__law_pool,
     b__law_pool := (fun_mk (st := s__law_pool) l__law_pool c__law_pool k__law_pool).binds (ps := ["_law_figure"]) fun _ _ _ _ _ _ us hl => match us, hl with | [_], _ => rfl,
     m__law_pool := PySem.W.mg_of X G a__law_pool,
     f__law_cell := f__law_cell,
     d__law_cell := PySem.W.fnOf "_law_cell" "_law_cell" (defArgs s__law_cell) (defBody s__law_cell) (defScope s__law_cell) .none kV__law_cell dc__law_cell pm__law_cell an__law_cell cd__law_cell ct__law_cell,
     F__law_cell := fun_mk (st := s__law_cell) l__law_cell c__law_cell k__law_cell,
     b__law_cell := (fun_mk (st := s__law_cell) l__law_cell c__law_cell k__law_cell).binds (ps := ["_law_script", "_law_k"]) fun _ _ _ _ _ _ us hl => match us, hl with | [_, _], _ => rfl,
     m__law_cell := PySem.W.mg_of X G a__law_cell,
     f_law := f_law,
     d_law := PySem.W.fnOf "law" "law" (defArgs s_law) (defBody s_law) (defScope s_law) .none kV_law dc_law pm_law an_law cd_law ct_law,
     F_law := fun_mk (st := s_law) l_law c_law k_law,
     b_law := (fun_mk (st := s_law) l_law c_law k_law).binds (ps := ["_law_script"]) fun _ _ _ _ _ _ us hl => match us, hl with | [_], _ => rfl,
     m_law := PySem.W.mg_of X G a_law,
     na_Box_mode := na_Box_mode,
     na_Box_policies := na_Box_policies,
     na_Box_rows := na_Box_rows,
     na_Box_stages := na_Box_stages,
     na_Cache_box := na_Cache_box,
     na_Cache_hit_number := na_Cache_hit_number,
     na_Cache_miss_number := na_Cache_miss_number,
     na_Cache_pattern := na_Cache_pattern,
     n_abs := PySem.W.mg_none_of X G z_abs,
     n_all := PySem.W.mg_none_of X G z_all,
     n_any := PySem.W.mg_none_of X G z_any,
     n_bool := PySem.W.mg_none_of X G z_bool,
     n_divmod := PySem.W.mg_none_of X G z_divmod,
     n_enumerate := PySem.W.mg_none_of X G z_enumerate,
     n_int := PySem.W.mg_none_of X G z_int,
     n_isinstance := PySem.W.mg_none_of X G z_isinstance,
     n_len := PySem.W.mg_none_of X G z_len,
     n_list := PySem.W.mg_none_of X G z_list,
     n_max := PySem.W.mg_none_of X G z_max,
     n_min := PySem.W.mg_none_of X G z_min,
     n_range := PySem.W.mg_none_of X G z_range,
     n_set := PySem.W.mg_none_of X G z_set,
     n_sorted := PySem.W.mg_none_of X G z_sorted,
     n_str := PySem.W.mg_none_of X G z_str,
     n_sum := PySem.W.mg_none_of X G z_sum,
     n_tuple := PySem.W.mg_none_of X G z_tuple,
     g_LETTERS := ⟨.str "abcdefghijklmnopqrstuvwxyz", _, PySem.W.mg_of X G g_LETTERS, ⟨_, rfl⟩, fun _ _ => .str _⟩,
     g_LEVELS := ⟨.ref ga_LEVELS, .ref ga_LEVELS, PySem.W.mg_of X G g_LEVELS, rfl, fun _ _ => .tup (vs := [V.str "plain", V.str "inclusive", V.str "victim"]) (.inr ⟨_, _, _, gl_LEVELS, rfl, rfl, rfl, by show 3 ≤ sizeLine; decide, .cons ⟨_, rfl⟩ (.cons ⟨_, rfl⟩ (.cons ⟨_, rfl⟩ (.nil)))⟩) (.cons (.str _) (.cons (.str _) (.cons (.str _) (.nil))))⟩,
     g_LONGEST := ⟨.int 6, _, PySem.W.mg_of X G g_LONGEST, ⟨_, rfl⟩, fun _ _ => .int _⟩,
     g_MOST_KEPT := ⟨.int 200, _, PySem.W.mg_of X G g_MOST_KEPT, ⟨_, rfl⟩, fun _ _ => .int _⟩,
     g_MOST_LINES := ⟨.int 4, _, PySem.W.mg_of X G g_MOST_LINES, ⟨_, rfl⟩, fun _ _ => .int _⟩,
     g_MOST_REQUESTS := ⟨.int 2000, _, PySem.W.mg_of X G g_MOST_REQUESTS, ⟨_, rfl⟩, fun _ _ => .int _⟩,
     g_MOST_STATES := ⟨.int 64, _, PySem.W.mg_of X G g_MOST_STATES, ⟨_, rfl⟩, fun _ _ => .int _⟩ },
   (Option.some.inj ((PySem.W.mg_of X G a_law).symm.trans hfa)) |> Value.ref.inj, fun s v => .of_eq rfl⟩
end L77


/-! text G1_77 -/
local macro_rules | `(tactic| bv_omega) => `(tactic| first | assumption | exact Zl.at_new | (apply Zl.at_set; bv_omega) | (apply Zl.at_set_ne; (focus (bv_omega; done)); omega) | (apply Zl.at_app; bv_omega) | (apply Zl.Kp.at; (focus (assumption; done)); (focus (bv_omega; done)); first | exact id | omega))
local macro_rules | `(tactic| array_mem_dec) => `(tactic| first | exact Zl.Kp.refl | assumption | (apply Zl.Kp.setl; (focus (array_mem_dec; done)); (intro _; omega)) | (apply Zl.Kp.appl; array_mem_dec) | (apply Zl.Kp.tl; (focus (assumption; done)); (focus (array_mem_dec; done)); intro n hn hw; first | exact hw | exact hw.elim | omega))
local macro_rules | `(tactic| subst_eqs) => `(tactic| first | exact Zl.rdL_nil | (apply Zl.rd_loc; (focus (bv_omega; done)); subst_eqs) | (apply Zl.rd_tup; subst_eqs) | (apply Zl.rdL_cons; (focus (subst_eqs; done)); subst_eqs) | exact Zl.rd_bls _ | with_unfolding_all rfl)
local macro_rules | `(tactic| simp_wf) => `(tactic| with_reducible repeat (first | apply Zl.wp_seq | apply Zl.k_nx | apply Zl.k_rt | apply Zl.k_bk | apply Zl.k_ct | apply Zl.wp_ret | apply Zl.wp_set | apply Zl.wp_drop | apply Zl.wp_asg | apply Zl.wp_par | apply Zl.wp_ifs | apply Zl.wp_end | apply Zl.wp_brk | apply Zl.wp_cnt | apply Zl.kf_rt | apply Zl.kf_nx | apply Zl.wp_k | apply Zl.wp_op | apply Zl.wp_un | apply Zl.wp_chain | apply Zl.wp_b | apply Zl.wp_trB | apply Zl.wp_not | apply Zl.wp_andT | apply Zl.wp_orT | apply Zl.wp_andV | apply Zl.wp_notV | apply Zl.wp_if | apply Zl.wp_nil | apply Zl.wp_cons | apply Zl.wp_tup | apply Zl.wp_lstA | apply Zl.wp_c | apply Zl.wp_call | apply Zl.wp_slP | apply Zl.wp_noP | apply Zl.wp_gN | apply Zl.wp_gsNil | apply Zl.wp_gsCons | apply Zl.wp_gS | apply Zl.wp_addI | apply Zl.wp_subI | apply Zl.wp_cmp | apply Zl.wp_eqI | apply Zl.wp_eqS | apply Zl.kb | apply Zl.ki_t | apply Zl.ki_f | apply Zl.kc_t | apply Zl.kc_f | apply Zl.wp_fld | apply Zl.wp_put | apply Zl.wp_meth | apply Zl.wp_make | apply Zl.wp_m | apply Zl.wp_src | apply Zl.wp_enum | apply Zl.wq_zip | apply Zl.wp_rngN | apply Zl.wp_P | apply Zl.wp_ok | apply Zl.wp_bnd | apply Zl.wq_dnew | apply Zl.kl_nx | apply Zl.kl_rt | apply Zl.kl_ct | apply Zl.kl_bk | refine Zl.wp_var (by with_unfolding_all rfl) ?_ | refine Zl.k_len (by with_unfolding_all rfl) ?_ | refine Zl.k_le (by with_unfolding_all rfl) ?_ | refine Zl.wp_isi (by with_unfolding_all rfl) ?_ | refine Zl.wp_len (by with_unfolding_all rfl) ?_ | refine Zl.wp_intd (by with_unfolding_all rfl) ?_ | refine Zl.wp_ixT (by with_unfolding_all rfl) ?_ | refine Zl.wp_gT (by with_unfolding_all rfl) ?_ | refine Zl.wp_gPr (by with_unfolding_all rfl) ?_))
local macro_rules | `(tactic| clean_wf) => `(tactic| with_reducible repeat (first | apply Zl.wp_seq | apply Zl.k_nx | apply Zl.k_rt | apply Zl.k_bk | apply Zl.k_ct | apply Zl.wp_ret | apply Zl.wp_set | apply Zl.wp_drop | apply Zl.wp_asg | apply Zl.wp_par | apply Zl.wp_ifs | apply Zl.wp_end | apply Zl.wp_brk | apply Zl.wp_cnt | apply Zl.kf_rt | apply Zl.kf_nx | apply Zl.wp_k | apply Zl.wp_op | apply Zl.wp_un | apply Zl.wp_chain | apply Zl.wp_b | apply Zl.wp_trB | apply Zl.wp_not | apply Zl.wp_andT | apply Zl.wp_orT | apply Zl.wp_andV | apply Zl.wp_notV | apply Zl.wp_if | apply Zl.wp_nil | apply Zl.wp_cons | apply Zl.wp_tup | apply Zl.wp_lst | apply Zl.wp_c | apply Zl.wp_call | apply Zl.wp_slP | apply Zl.wp_noP | apply Zl.wp_gN | apply Zl.wp_gsNil | apply Zl.wp_gsCons | apply Zl.wp_gS | apply Zl.wp_addI | apply Zl.wp_subI | apply Zl.wp_cmp | apply Zl.wp_eqI | apply Zl.wp_eqS | apply Zl.kb | apply Zl.ki_t | apply Zl.ki_f | apply Zl.kc_t | apply Zl.kc_f | apply Zl.wp_fld | apply Zl.wp_put | apply Zl.wp_meth | apply Zl.wp_make | apply Zl.wp_m | apply Zl.wp_src | apply Zl.wp_enum | apply Zl.wq_zip | apply Zl.wp_rngN | apply Zl.wp_P | apply Zl.wp_ok | apply Zl.wp_bnd | apply Zl.wq_dnew | apply Zl.kl_nx | apply Zl.kl_rt | apply Zl.kl_ct | apply Zl.kl_bk | refine Zl.wp_var (by with_unfolding_all rfl) ?_ | refine Zl.k_len (by with_unfolding_all rfl) ?_ | refine Zl.k_le (by with_unfolding_all rfl) ?_ | refine Zl.wp_isi (by with_unfolding_all rfl) ?_ | refine Zl.wp_len (by with_unfolding_all rfl) ?_ | refine Zl.wp_intd (by with_unfolding_all rfl) ?_ | refine Zl.wp_ixT (by with_unfolding_all rfl) ?_ | refine Zl.wp_gT (by with_unfolding_all rfl) ?_ | refine Zl.wp_gPr (by with_unfolding_all rfl) ?_))
local macro_rules | `(tactic| array_get_dec) => `(tactic| with_reducible repeat (first | apply Zl.wp_seq | apply Zl.k_nx | apply Zl.k_rt | apply Zl.k_bk | apply Zl.k_ct | apply Zl.wp_ret | apply Zl.wp_set | apply Zl.wp_drop | apply Zl.wp_asg | apply Zl.wp_par | apply Zl.wp_ifs | apply Zl.wp_end | apply Zl.wp_brk | apply Zl.wp_cnt | apply Zl.kf_rt | apply Zl.kf_nx | apply Zl.wp_k | apply Zl.wp_op | apply Zl.wp_un | apply Zl.wp_chain | apply Zl.wp_b | apply Zl.wp_trB | apply Zl.wp_not | apply Zl.wp_andT | apply Zl.wp_orT | apply Zl.wp_andV | apply Zl.wp_notV | apply Zl.wp_if | apply Zl.wp_nil | apply Zl.wp_cons | apply Zl.wp_tup | apply Zl.wq_lst | apply Zl.wp_c | apply Zl.wp_call | apply Zl.wp_slP | apply Zl.wp_noP | apply Zl.wp_gN | apply Zl.wp_gsNil | apply Zl.wp_gsCons | apply Zl.wq_gS | apply Zl.wp_addI | apply Zl.wp_subI | apply Zl.wp_cmp | apply Zl.wp_eqI | apply Zl.wp_eqS | apply Zl.kb | apply Zl.ki_t | apply Zl.ki_f | apply Zl.kc_t | apply Zl.kc_f | apply Zl.wq_fld | apply Zl.wq_put | apply Zl.wq_meth' | apply Zl.wq_make2 | apply Zl.wq_m | apply Zl.wq_src | apply Zl.wq_enum | apply Zl.wq_zip | apply Zl.wq_rng | apply Zl.wq_P | apply Zl.wp_ok | apply Zl.wp_bnd | apply Zl.wq_dnew | apply Zl.kl_nx | apply Zl.kl_rt | apply Zl.kl_ct | apply Zl.kl_bk | refine Zl.wp_var (by with_unfolding_all rfl) ?_ | refine Zl.k_len (by with_unfolding_all rfl) ?_ | refine Zl.k_le (by with_unfolding_all rfl) ?_ | refine Zl.wp_isi (by with_unfolding_all rfl) ?_ | refine Zl.wp_len (by with_unfolding_all rfl) ?_ | refine Zl.wp_intd (by with_unfolding_all rfl) ?_ | refine Zl.wp_ixT (by with_unfolding_all rfl) ?_ | refine Zl.wp_gT (by with_unfolding_all rfl) ?_ | refine Zl.wp_gPr (by with_unfolding_all rfl) ?_ | (apply Zl.k_fld; (focus (bv_omega; done)); (focus (with_unfolding_all rfl; done))) | (apply Zl.k_putO; (focus (bv_omega; done)); (focus (with_unfolding_all rfl; done))) | (apply Zl.k_ins; (focus (bv_omega; done)); (focus (with_unfolding_all rfl; done))) | apply Zl.k_pos | apply Zl.k_non | (apply Zl.k_tyL; (focus (bv_omega; done))) | apply Zl.k_tyT | (apply Zl.k_srcL; (focus (bv_omega; done))) | apply Zl.k_srcT | apply Zl.k_srcR | apply Zl.k_zipT | apply Zl.k_enumT | (apply Zl.wr_lstL; (focus (bv_omega; done))) | apply Zl.wr_lstT | apply Zl.k_srcS | (apply Zl.wp_aug; (focus (with_unfolding_all rfl; done))) | apply Zl.k_int | apply Zl.k_nat | apply Zl.k_natL | (apply Zl.k_sml; (focus ((first | omega | with_unfolding_all decide); done))) | (apply Zl.k_new; intro _ _ _ _ _ _) | (apply Zl.k_wr; intro _ _ _ _) | apply Zl.kt_nx | apply Zl.kt_ct | apply Zl.kt_bk | apply Zl.kt_rt | (apply Zl.k_acc; (focus (bv_omega; done)); (focus (with_unfolding_all rfl; done))) | (apply Zl.wv_map; (focus (with_unfolding_all rfl; done)); (focus ((first | with_unfolding_all rfl | (apply Zl.stpL_go; (focus (bv_omega; done)); with_unfolding_all rfl) | (apply Zl.stpL_end; bv_omega) | (refine Eq.trans (Zl.stpL_at (by bv_omega)) ?_; with_unfolding_all rfl)); done))) | (apply Zl.wuc_end; (focus ((first | with_unfolding_all rfl | (apply Zl.stpL_go; (focus (bv_omega; done)); with_unfolding_all rfl) | (apply Zl.stpL_end; bv_omega) | (refine Eq.trans (Zl.stpL_at (by bv_omega)) ?_; with_unfolding_all rfl)); done))) | (apply Zl.wv_go; (focus (with_unfolding_all rfl; done)); (focus ((first | with_unfolding_all rfl | (apply Zl.stpL_go; (focus (bv_omega; done)); with_unfolding_all rfl) | (apply Zl.stpL_end; bv_omega) | (refine Eq.trans (Zl.stpL_at (by bv_omega)) ?_; with_unfolding_all rfl)); done))) | (apply Zl.wu_end; (focus ((first | with_unfolding_all rfl | (apply Zl.stpL_go; (focus (bv_omega; done)); with_unfolding_all rfl) | (apply Zl.stpL_end; bv_omega) | (refine Eq.trans (Zl.stpL_at (by bv_omega)) ?_; with_unfolding_all rfl)); done))) | (apply Zl.wp_ixL; (focus (bv_omega; done)); (focus ((first | (apply Zl.atI_n; assumption) | with_unfolding_all rfl); done))) | (apply Zl.wp_ixT; (focus ((apply Zl.atI_n; assumption); done))) | (apply Zl.k_setO; (focus (bv_omega; done)); (focus (with_unfolding_all rfl; done))) | (apply Zl.k_setDk; (focus (bv_omega; done)); (focus (with_unfolding_all rfl; done)); (focus (omega; done))) | (apply Zl.wp_lenL; (focus (bv_omega; done))) | (apply Zl.wp_tupL; (focus (bv_omega; done))) | (apply Zl.wp_modI; (focus (omega; done))) | (apply Zl.wp_fdivI; (focus (omega; done))) | (apply Zl.wp_mulI; (focus (omega; done))) | apply Zl.wp_slT | (apply Zl.wq_addT; (focus ((first | (simp; done) | with_unfolding_all decide); done))) | (apply Zl.wq_addL; (focus (bv_omega; done)); (focus (bv_omega; done)); (focus ((first | (simp; done) | with_unfolding_all decide); done))) | apply Zl.wq_slR | (apply Zl.wq_slL; (focus (bv_omega; done))) | (apply Zl.wp_gL; (focus (bv_omega; done)); (focus (with_unfolding_all rfl; done)))))
local macro_rules | `(tactic| ac_nf0) => `(tactic| first | rfl | decide | (simp; done) | (simp; omega))
namespace L77
open PySem L2 PySem.Spec PyProof.Rows Zl
def Pool (p : Nat) (M : Mem) : Prop := ∃ a b c : Int, M[p]? = some (.lst [.int a, .int b, .int c])
abbrev At (p : Nat) : Nat → Prop := fun n => n = p
theorem sp_draw {p : Nat} {m : Int} {M : Mem} (h : Pool p M) (hm : 0 < m) (hm2 : m < 1073741824) : Wp (m__law_draw [.loc p, .int m] M) fun d M' => (∃ r : Nat, d = .int r ∧ (r : Int) < m) ∧ Pool p M' ∧ Kp (At p) M M' := by
  obtain ⟨a, b, c, h⟩ := h
  refine wp_fn rfl [some (.loc p), some (.int m), none, none] rfl ?_
  unfold b__law_draw
  clean_wf
  refine wp_ixL h rfl ?_
  clean_wf
  refine ⟨_, set_i (j := 2) h rfl, ?_⟩
  have k1 : Kp (At p) M (M.set p (.lst ([.int a, .int b, .int c].set 2 (.int (c + 1))))) := .set fun _ => rfl
  have h1 := at_set (o := .lst ([.int a, .int b, .int c].set 2 (.int (c + 1)))) h
  generalize M.set p (.lst ([.int a, .int b, .int c].set 2 (.int (c + 1)))) = M1 at k1 h1
  clean_wf
  refine wp_ixL h1 rfl ?_
  clean_wf
  refine wp_modI (by decide) ?_
  clean_wf
  refine wp_mulI (.inr (by omega)) ?_
  clean_wf
  refine wp_ixL h1 rfl ?_
  refine wp_mulI (.inl (by decide)) ?_
  clean_wf
  refine wp_modI (by decide) ?_
  clean_wf
  refine ⟨_, set_i (j := 0) h1 rfl, ?_⟩
  generalize hv : ((a * (a % 50021 + 30011) + 80021 * (c + 1)) % 2147483249 : Int) = v
  have k2 : Kp (At p) M1 (M1.set p (.lst (([.int a, .int b, .int c].set 2 (.int (c + 1))).set 0 (.int v)))) := .set fun _ => rfl
  have h2 : (M1.set p (.lst (([.int a, .int b, .int c].set 2 (.int (c + 1))).set 0 (.int v))))[p]? = some (.lst [.int v, .int b, .int (c + 1)]) := at_set h1
  have k3 := k1.tr k2
  generalize M1.set p (.lst (([.int a, .int b, .int c].set 2 (.int (c + 1))).set 0 (.int v))) = M2 at k3 h2
  clean_wf
  refine wp_ixL h2 rfl ?_
  clean_wf
  by_cases hb : (0 : Int) < b
  · refine ki_of (decide_eq_true hb) ?_
    clean_wf
    refine wp_ixL h2 rfl ?_
    clean_wf
    refine wp_ev (if_pos ⟨hm, hm2⟩) ?_
    clean_wf
    refine ⟨_, set_i (j := 1) h2 rfl, ?_⟩
    clean_wf
    refine ⟨⟨(b % m).toNat, ?_, ?_⟩, ⟨v, b / m, c + 1, at_set h2⟩, k3.tr (.set fun _ => rfl)⟩
    · rw [Int.toNat_of_nonneg (Int.emod_nonneg _ (by omega))]
    · rw [Int.toNat_of_nonneg (Int.emod_nonneg _ (by omega))]
      exact Int.emod_lt_of_pos _ hm
  · refine ki_of (decide_eq_false hb) ?_
    clean_wf
    refine wp_ixL h2 rfl ?_
    clean_wf
    refine wp_fdivI (by decide) ?_
    clean_wf
    refine wp_modI hm ?_
    clean_wf
    refine ⟨⟨(v / 64 % m).toNat, ?_, ?_⟩, ⟨v, b, c + 1, h2⟩, k3⟩
    · rw [Int.toNat_of_nonneg (Int.emod_nonneg _ (by omega))]
    · rw [Int.toNat_of_nonneg (Int.emod_nonneg _ (by omega))]
      exact Int.emod_lt_of_pos _ hm

theorem Pool.keep {p n : Nat} {M : Mem} {o : Ob} (h : Pool p M) (e : p ≠ n) : Pool p (M.set n o) := by
  obtain ⟨a, b, c, h⟩ := h
  exact ⟨a, b, c, at_set_ne h (Ne.symm e)⟩
theorem Pool.app {p : Nat} {M L : Mem} (h : Pool p M) : Pool p (M ++ L) := by
  obtain ⟨a, b, c, h⟩ := h
  exact ⟨a, b, c, at_app h⟩
theorem Pool.lt {p : Nat} {M : Mem} (h : Pool p M) : p < M.length := by
  obtain ⟨a, b, c, h⟩ := h
  exact lt_of h
theorem Pool.kp {p : Nat} {M M' : Mem} (h : Pool p M) (k : Kp NoW M M') : Pool p M' := by
  obtain ⟨a, b, c, h⟩ := h
  exact ⟨a, b, c, k.at h id⟩
end L77

/-! text G2_77 -/
namespace L77
open PySem L2 PySem.Spec PyProof.Rows Zl
/-- names -/
def okName (x : Str) : Bool := decide (1 ≤ x.length) && decide (x.length ≤ 6) && x.cps.toList.all fun c => decide (c ∈ ("abcdefghijklmnopqrstuvwxyz" : Str).cps.toList)
def strsD (ws : List Str) : List Dv := ws.map .str
def intsN (ns : List Nat) : List Dv := ns.map fun n => .int (n : Nat)
theorem sp_pool {x : Int} {M : Mem} : Wp (m__law_pool [.int x] M) fun d M' => ∃ p, d = .loc p ∧ p = M.length ∧ Pool p M' ∧ Kp NoW M M' := by
  refine wp_fn rfl [some (.int x), none] rfl ?_
  unfold b__law_pool
  simp_wf
  by_cases h1 : x < 0
  · refine ki_of (decide_eq_true h1) ?_
    simp_wf
    refine wp_ev (a := .int (if x < 0 then -x else x)) rfl ?_
    simp_wf
    refine wp_modI (by decide) ?_
    simp_wf
    intro n1 M1 e1 g1 k1 l1
    simp_wf
    exact ⟨n1, rfl, e1, ⟨_, _, _, g1⟩, k1⟩
  · refine ki_of (decide_eq_false h1) ?_
    simp_wf
    refine wp_ev (a := .int 1000000000000000000) rfl ?_
    simp_wf
    by_cases h2 : (1000000000000000000 : Int) ≤ x
    · refine ki_of (decide_eq_true h2) ?_
      simp_wf
      refine wp_ev (a := .int (if x < 0 then -x else x)) rfl ?_
      simp_wf
      refine wp_modI (by decide) ?_
      simp_wf
      intro n1 M1 e1 g1 k1 l1
      simp_wf
      exact ⟨n1, rfl, e1, ⟨_, _, _, g1⟩, k1⟩
    · refine ki_of (decide_eq_false h2) ?_
      simp_wf
      refine wp_modI (by decide) ?_
      simp_wf
      intro n1 M1 e1 g1 k1 l1
      simp_wf
      exact ⟨n1, rfl, e1, ⟨_, _, _, g1⟩, k1⟩
theorem sp_cell {ns : List Int} {k : Nat} {M : Mem} (hk : k < 100) : Wp (m__law_cell [.rol (ns.map .int), .int (k : Nat)] M) fun d M' => (∃ x : Int, d = .int x) ∧ Kp NoW M M' := by
  refine wp_fn rfl [some (.rol (ns.map .int)), some (.int (k : Nat)), none, none] rfl ?_
  unfold b__law_cell
  simp_wf
  by_cases h : (k : Int) < ((ns.map Dv.int).length : Nat)
  · refine ki_of (decide_eq_true h) ?_
    simp_wf
    have h' : k < ns.length := by simpa using h
    refine wp_ixR (atI_n (x := Dv.int ns[k]) (by simp [h'])) ?_
    simp_wf
    exact ⟨⟨_, rfl⟩, .refl⟩
  · refine ki_of (decide_eq_false h) ?_
    simp_wf
    refine wp_mulI (.inr (by omega)) ?_
    simp_wf
    refine wp_mulI (.inl (by decide)) ?_
    simp_wf
    refine wp_mulI (.inl (by decide)) ?_
    simp_wf
    refine wp_modI (by decide) ?_
    simp_wf
    refine wp_for (fun i env M' => ∃ (x3 : Option Dv) (z : Int), env = [some (.rol (ns.map .int)), some (.int (k : Nat)), some (.int z), x3] ∧ M'[M.length]? = some (.lst (cutD (ns.map .int) none (some 3))) ∧ Kp NoW M M') ?_
    simp_wf
    refine ⟨_, rfl, ?_⟩
    refine wp_slR ?_
    rintro _ M1 rfl g1 k1 _
    refine ⟨_, src_loc g1, ⟨none, _, rfl, g1, k1⟩, ?_, ?_⟩
    · rintro i env M' hi ⟨x3, z, rfl, g2, k2⟩
      have hi' : i < (cutD (ns.map Dv.int) none (some 3)).length := hi
      have hm := cut_mem (List.getElem_mem hi')
      obtain ⟨v, _, hv⟩ := List.mem_map.mp hm
      refine ⟨.int v, by show stpL _ i M' = _; rw [stpL_at g2, List.getElem?_eq_getElem hi', hv], ?_⟩
      simp_wf
      refine wp_mulI (.inr (by decide)) ?_
      simp_wf
      refine wp_modI (by decide) ?_
      simp_wf
      exact ⟨_, _, rfl, g2, k2⟩
    · rintro env M' ⟨x3, z, rfl, g2, k2⟩
      refine ⟨by show stpL _ _ M' = _; rw [stpL_at g2]; simp, ?_⟩
      simp_wf
      exact ⟨⟨_, rfl⟩, k2⟩
end L77

/-! text G4_77 -/
namespace L77
open PySem L2 PySem.Spec PyProof.Rows Zl
theorem sp_integer {v : Int} {M : Mem} : Wp (m_is_integer [.int v] M) fun d M' => d = .bl true ∧ M' = M := by
  refine wp_fn rfl [some (.int v)] rfl ?_
  unfold b_is_integer
  simp_wf
  refine kc_of (c := true) rfl ?_
  simp_wf
  exact ⟨rfl, rfl⟩
theorem sp_between {v a b : Int} {M : Mem} (h1 : a ≤ v) (h2 : v ≤ b) : Wp (m_is_between [.int v, .int a, .int b] M) fun d M' => d = .bl true ∧ M' = M := by
  refine wp_fn rfl [some (.int v), some (.int a), some (.int b)] rfl ?_
  unfold b_is_between
  simp_wf
  refine sp_integer.go fun d M' ⟨e1, e2⟩ => ?_
  subst e1 e2
  simp_wf
  refine kc_of (decide_eq_true h1) ?_
  simp_wf
  exact ⟨by rw [decide_eq_true h2], rfl⟩
end L77

/-! text G3_77 -/
namespace L77
open PySem L2 PySem.Spec PyProof.Rows Zl
theorem sp_name {x : Str} {M : Mem} (h : okName x = true) : Wp (m_is_name [.str x] M) fun d M' => d = .bl true ∧ Kp NoW M M' := by
  unfold okName at h
  rw [Bool.and_eq_true, Bool.and_eq_true, decide_eq_true_eq, decide_eq_true_eq, List.all_eq_true] at h
  obtain ⟨⟨h1, h2⟩, h3⟩ := h
  refine wp_fn rfl [some (.str x), none] rfl ?_
  unfold b_is_name c_LETTERS c_LONGEST
  simp_wf
  refine ki_of (c := false) rfl ?_
  simp_wf
  refine wp_ev (a := .int (x.length : Nat)) (if_pos (by show _ ≤ 2 ^ 24; omega)) ?_
  simp_wf
  refine kc_of (c := true) (decide_eq_true (by omega)) ?_
  simp_wf
  refine ki_of (c := false) (by rw [decide_eq_true (by omega)]; rfl) ?_
  simp_wf
  refine wp_lcP (fun _ => .bl true) ?_
  simp_wf
  have hs : x.cps.size ≤ 6 := h2
  refine ⟨_, rfl, x.cps.toList.map fun c => .str ⟨#[c]⟩, by simp, by simp; show _ ≤ 2 ^ 24; omega, fun i _ _ _ => ?_, ?_, ?_⟩
  · show some (x.cps[i]?.map fun c => Dv.str ⟨#[c]⟩) = _
    rw [List.getElem?_map, Array.getElem?_toList]
  · intro y hy M1 k1
    obtain ⟨c, hc, rfl⟩ := List.mem_map.mp hy
    simp_wf
    refine wp_ev (a := .bl true) ?_ ⟨rfl, .refl⟩
    show some (Dv.bl (false ^^ decide (c ∈ _)), M1) = _
    rw [h3 c hc]; rfl
  · intro M1 k1 g1
    simp_wf
    refine wp_all g1 (bls_all (by simp)) ?_
    simp_wf
    exact ⟨by simp, k1⟩
end L77

/-! text J1_77 -/
namespace L77
open PySem L2 PySem.Spec PyProof.Rows Zl
/-! comprehensions over a range that draw from the pool -/
def kLcJ (R : Dv → Dv → Prop) (p : Nat) (fe : FE) (env : En) (v : Nat) (vs : List Nat) (q : QE) : Src → Mem → Prop := fun src M1 => ∃ n : Nat, src = srcR 0 n ∧ n ≤ 10000 ∧ Pool p M1 ∧
  (∀ j : Nat, j < n → ∀ M', Kp (At p) M1 M' → M1.length < M'.length → Pool p M' → Wp (fe ((wipeE env vs).set v (some (.int (j : Nat)))) M') fun y M3 => R (.int (j : Nat)) y ∧ Kp (At p) M' M3 ∧ Pool p M3) ∧
  ∀ ys m M', m = M1.length → M1.length < M'.length → All2 R (intsR n) ys → Kp (At p) M1 M' → Pool p M' → M'[m]? = some (.lst ys) → q (.loc m) M'
theorem wq_lcJ {fi : FI} {fe : FE} {env : En} {M : Mem} {q : QE} {v : Nat} {vs : List Nat} (R : Dv → Dv → Prop) (p : Nat) (h : Wp (fi env M) (kLcJ R p fe env v vs q)) : Wp (fComp fi vs (gN v) fYes fe env M) q := by
  refine wp_lc R (At p) (Pool p) (h.go ?_)
  rintro src M1 ⟨n, rfl, hn, hp, he, hq⟩
  have pl := hp.lt
  refine ⟨intsR n, intsR_len.symm, by rw [intsR_len]; exact size_le (by omega), by simp only [At]; omega, fun i M' _ _ _ => rng_stp, hp.app, fun M' a b hh _ => hh.keep (by omega), ?_, ?_⟩
  · intro x hx M' k hl hj
    unfold intsR at hx
    obtain ⟨j, hj', rfl⟩ := List.mem_map.mp hx
    exact he j (List.mem_range.mp hj') M' k hl hj
  · intro ys M' ha k hj g
    exact hq ys _ M' rfl (lt_of g) ha k hj g
theorem k_lcJ {R : Dv → Dv → Prop} {p : Nat} {fe : FE} {env : En} {v n : Nat} {vs : List Nat} {q : QE} {M : Mem} (hn : n ≤ 10000) (hp : Pool p M)
    (he : ∀ j : Nat, j < n → ∀ M', Kp (At p) M M' → M.length < M'.length → Pool p M' → Wp (fe ((wipeE env vs).set v (some (.int (j : Nat)))) M') fun y M3 => R (.int (j : Nat)) y ∧ Kp (At p) M' M3 ∧ Pool p M3)
    (hq : ∀ ys m M', m = M.length → M.length < M'.length → All2 R (intsR n) ys → Kp (At p) M M' → Pool p M' → M'[m]? = some (.lst ys) → q (.loc m) M') : kLcJ R p fe env v vs q (srcR 0 n) M := ⟨n, rfl, hn, hp, he, hq⟩
theorem Pool.kpAt {p n : Nat} {M M' : Mem} (h : Pool p M) (k : Kp (fun m => m = n) M M') (e : p ≠ n) : Pool p M' := by
  obtain ⟨a, b, c, h⟩ := h
  exact ⟨a, b, c, k.at h e⟩
end L77

/-! text H1_77 -/
namespace L77
open PySem L2 PySem.Spec PyProof.Rows Zl
theorem sp_history {ns : List Str} {M : Mem} (hn : ns.length ≤ 2000) (hok : ∀ x ∈ ns, okName x = true) : Wp (m_check_history [.tup (strsD ns)] M) fun d M' => Kp NoW M M' := by
  have hl : (strsD ns).length = ns.length := by simp [strsD]
  refine wp_fn rfl [some (.tup (strsD ns)), none, none] rfl ?_
  unfold b_check_history c_MOST_REQUESTS
  simp_wf
  refine ki_of (c := false) rfl ?_
  simp_wf
  refine ki_of (c := false) (decide_eq_false (by omega)) ?_
  simp_wf
  refine wp_for (fun i env M' => ∃ x1 x2 : Option Dv, env = [some (.tup (strsD ns)), x1, x2] ∧ Kp NoW M M') ?_
  simp_wf
  refine ⟨_, rfl, ⟨none, none, rfl, .refl⟩, ?_, ?_⟩
  · rintro i env M' hi ⟨x1, x2, rfl, k1⟩
    have hi' : i < (strsD ns).length := hi
    have hi2 : i < ns.length := by omega
    have e1 : (strsD ns)[i]? = some (.str ns[i]) := by simp [strsD, hi2]
    refine ⟨.pr [.int (i : Nat), .str ns[i]], ?_, ?_⟩
    · show (if i ≤ (strsD ns).length then some (pairs (strsD ns) i) else none) = _
      rw [if_pos (by omega)]
      unfold pairs
      rw [e1]; rfl
    · simp_wf
      refine (sp_name (hok _ (List.getElem_mem _))).go fun d M1 ⟨e, k⟩ => ?_
      subst e
      simp_wf
      refine ki_of (c := false) rfl ?_
      simp_wf
      exact ⟨_, _, rfl, k1.tr k⟩
  · rintro env M' ⟨x1, x2, rfl, k1⟩
    refine ⟨?_, k1⟩
    show (if (strsD ns).length ≤ (strsD ns).length then some (pairs (strsD ns) (strsD ns).length) else none) = _
    rw [if_pos (Nat.le_refl _)]
    unfold pairs
    rw [List.getElem?_eq_none (Nat.le_refl _)]; rfl
end L77

/-! text A0_77 -/
namespace L77
open PySem L2 PySem.Spec PyProof.Rows Zl
structure Row where
  v : Nat
  s : Nat
  hits : List Nat
  deriving DecidableEq
structure Tb where
  l : Nat
  rows : List Row
  deriving DecidableEq
def rowD (r : Row) : Dv := .tup [.int (r.v : Nat), .int (r.s : Nat), .tup (intsN r.hits)]
def tabD (t : Tb) : Dv := .tup [.int (t.l : Nat), .tup (t.rows.map rowD)]
def OkR (l n : Nat) (r : Row) : Prop := r.v < l ∧ r.s < n ∧ r.hits.length = l ∧ ∀ h ∈ r.hits, h < n
structure OkT (t : Tb) : Prop where
  l1 : 1 ≤ t.l
  l4 : t.l ≤ 4
  r1 : 1 ≤ t.rows.length
  r64 : t.rows.length ≤ 64
  ok : ∀ r ∈ t.rows, OkR t.l t.rows.length r
theorem nats_of {s : Nat} : ∀ {xs ys : List Dv}, All2 (fun _ y => ∃ r : Nat, y = Dv.int r ∧ (r : Int) < s) xs ys → ∃ ns : List Nat, ys = intsN ns ∧ ns.length = xs.length ∧ ∀ n ∈ ns, n < s
  | _, _, .nil => ⟨[], rfl, rfl, fun n h => by simp at h⟩
  | _, _, .cons ⟨r, e, hr⟩ t => by
    obtain ⟨ns, e2, h2, h3⟩ := nats_of t
    refine ⟨r :: ns, by rw [e, e2]; rfl, by simp [h2], fun n hn => ?_⟩
    rcases List.mem_cons.mp hn with e | hn
    · omega
    · exact h3 n hn
end L77

/-! text A1_77 -/
namespace L77
open PySem L2 PySem.Spec PyProof.Rows Zl
/-! tables -/
theorem sp_policyL {p : Nat} {l s : Nat} {M : Mem} (h : Pool p M) (hl : 1 ≤ l) (hl4 : l ≤ 4) (hs : 1 ≤ s) (hs2 : s ≤ 64) :
    Wp (m__law_policy [.loc p, .int (l : Nat), .int (s : Nat)] M) fun d M' => (∃ t, d = tabD t ∧ OkT t ∧ t.l = l ∧ t.rows.length = s) ∧ Pool p M' ∧ Kp (At p) M M' := by
  have hp := h.lt
  refine wp_fn rfl [some (.loc p), some (.int (l : Nat)), some (.int (s : Nat)), none, none, none, none] rfl ?_
  unfold b__law_policy
  clean_wf
  refine wp_for (fun i env M' => ∃ (x4 x5 : Option Dv) (rows : List Row), env = [some (.loc p), some (.int (l : Nat)), some (.int (s : Nat)), some (.loc M.length), x4, x5, none] ∧ rows.length = i ∧ M'[M.length]? = some (.lst (rows.map rowD)) ∧ (∀ r ∈ rows, OkR l s r) ∧ Pool p M' ∧ Kp (At p) M M') ?_
  clean_wf
  refine ⟨_, rfl, by omega, ⟨none, none, [], rfl, rfl, at_new, fun r hr => by simp at hr, h.app, .app _⟩, ?_, ?_⟩
  · rintro i env M' hi ⟨x4, x5, rows, rfl, h1, h2, h3, h4, h5⟩
    refine ⟨_, rng_go hi, ?_⟩
    clean_wf
    refine wp_lc (fun _ y => ∃ r : Nat, y = Dv.int r ∧ (r : Int) < s) (At p) (Pool p) ?_
    clean_wf
    refine ⟨_, rfl, by omega, intsR l, intsR_len.symm, by rw [intsR_len]; show _ ≤ 2 ^ 24; omega, ?_, fun i M' _ _ _ => rng_stp, h4.app, fun M' a b hh _ => hh.keep ?_, ?_, ?_⟩
    · have := h4.lt; intro e; omega
    · have := h4.lt; omega
    · intro x hx M2 hk hl2 hj
      clean_wf
      refine (sp_draw hj (by omega) (by omega)).go fun d M3 ⟨a, b, c⟩ => ⟨a, c, b⟩
    · intro ys M2 ha hk hj hy
      obtain ⟨ns, rfl, n1, n2⟩ := nats_of ha
      have n1' : ns.length = l := n1.trans intsR_len
      have g2 := hk.at h2 (by omega)
      clean_wf
      refine wp_tupL hy ?_
      clean_wf
      refine ⟨ty_lst g2, ?_⟩
      clean_wf
      refine (sp_draw hj (by omega) (by omega)).go fun d1 M3 ⟨⟨r1, e1, f1⟩, b1, c1⟩ => ?_
      subst e1
      clean_wf
      refine (sp_draw b1 (by omega) (by omega)).go fun d2 M4 ⟨⟨r2, e2, f2⟩, b2, c2⟩ => ?_
      subst e2
      clean_wf
      have g4 := c2.at (c1.at g2 (by omega)) (by omega)
      refine wp_append g4 (by simp [h1]; show _ < 2 ^ 24; have : i < s := hi; omega) ?_
      clean_wf
      refine ⟨_, _, rows ++ [⟨r1, r2, ns⟩], rfl, by simp [h1], ?_, ?_, b2.keep (by omega), ?_⟩
      · rw [at_set g4, List.map_append]; rfl
      · intro r hr
        rcases List.mem_append.mp hr with hr | hr
        · exact h3 r hr
        · have e : r = ⟨r1, r2, ns⟩ := by simpa using hr
          subst e
          exact ⟨by show r1 < l; omega, by show r2 < s; omega, n1', n2⟩
      · exact (((h5.tr hk).tr c1).tr c2).trans (Kp.set (W := fun n => n = M.length) fun _ => rfl) (fun n hn e => by omega)
  · rintro env M' ⟨x4, x5, rows, rfl, h1, h2, h3, h4, h5⟩
    refine ⟨rng_end, ?_⟩
    clean_wf
    refine wp_tupL h2 ?_
    clean_wf
    have e : rows.length = s := h1
    exact ⟨⟨⟨l, rows⟩, rfl, ⟨hl, hl4, by show 1 ≤ rows.length; omega, by show rows.length ≤ 64; omega, fun r hr => by rw [show (Tb.mk l rows).rows.length = s from e]; exact h3 r hr⟩, rfl, e⟩, h4, h5⟩
theorem sp_policy {p : Nat} {l s : Nat} {M : Mem} (h : Pool p M) (hl : 1 ≤ l) (hl4 : l ≤ 4) (hs : 1 ≤ s) (hs2 : s ≤ 64) :
    Wp (m__law_policy [.loc p, .int (l : Nat), .int (s : Nat)] M) fun d M' => (∃ t, d = tabD t ∧ OkT t) ∧ Pool p M' ∧ Kp (At p) M M' :=
  (sp_policyL h hl hl4 hs hs2).go fun d M' ⟨⟨t, e, ok, _⟩, b, c⟩ => ⟨⟨t, e, ok⟩, b, c⟩
end L77

/-! text A3_77 -/
namespace L77
open PySem L2 PySem.Spec PyProof.Rows Zl
/-! the queue -/
def queueT (l : Nat) : Tb := ⟨l, (List.range l).map fun a => ⟨a, (a + 1) % l, List.replicate l a⟩⟩
theorem rep_tup {l a : Nat} : (List.replicate l [Dv.int (a : Nat)]).flatten = intsN (List.replicate l a) := by
  induction l with
  | zero => rfl
  | succ n ih => rw [List.replicate_succ, List.flatten_cons, ih]; rfl
theorem sp_queue {l : Nat} {M : Mem} (hl : 1 ≤ l) (hl4 : l ≤ 4) : Wp (m__law_queue [.int (l : Nat)] M) fun d M' => d = tabD (queueT l) ∧ Kp NoW M M' := by
  refine wp_fn rfl [some (.int (l : Nat)), none] rfl ?_
  unfold b__law_queue
  simp_wf
  refine wp_lcP (fun x => match x with | .int i => rowD ⟨i.toNat, (i.toNat + 1) % l, List.replicate l i.toNat⟩ | _ => .non) ?_
  simp_wf
  refine ⟨_, rfl, by omega, intsR l, intsR_len.symm, by rw [intsR_len]; show _ ≤ 2 ^ 24; omega, fun i M' _ _ => rng_stp, ?_, ?_⟩
  · intro x hx M1 k1
    obtain ⟨a, ha, rfl⟩ := List.mem_map.mp hx
    simp_wf
    refine wp_modI (by omega) ?_
    simp_wf
    refine wp_mulT (by show 1 * _ ≤ _; omega) (by omega) ?_
    simp_wf
    refine ⟨?_, .refl⟩
    simp only [Int.toNat_natCast, rep_tup, rowD]
    rfl
  · intro M1 k1 g1
    simp_wf
    refine wp_tupL g1 ?_
    simp_wf
    refine ⟨?_, k1⟩
    simp only [tabD, queueT, intsR, List.map_map]
    congr 3
theorem queue_ok {l : Nat} (hl : 1 ≤ l) (hl4 : l ≤ 4) : OkT (queueT l) := by
  refine ⟨hl, hl4, by simpa [queueT] using hl, by simp [queueT]; omega, fun r hr => ?_⟩
  obtain ⟨a, ha, rfl⟩ := List.mem_map.mp hr
  have ha' : a < l := by simpa using ha
  refine ⟨ha', by simp only [queueT, List.length_map, List.length_range]; exact Nat.mod_lt _ (by omega), by simp [queueT], fun h hh => ?_⟩
  have : h = a := (List.mem_replicate.mp hh).2
  subst this
  simpa [queueT] using ha'
/-! the least recently used -/
def goalsN (l : Nat) (here : List Nat) : List (List Nat) := (List.range l).map fun line => (here.filter fun s => s != line) ++ [line]
def nextN (l i : Nat) (p : List (List Nat) × List Row) : List (List Nat) × List Row :=
  let here := p.1.getD i []
  let gs := goalsN l here
  let os := p.1 ++ gs.filter fun g => !p.1.contains g
  (os, p.2 ++ [⟨here.headD 0, os.idxOf (gs.getD (here.headD 0) []), gs.map os.idxOf⟩])
def recN (l : Nat) : Nat → List (List Nat) × List Row
  | 0 => ([List.range l], [])
  | i + 1 => nextN l i (recN l i)
def factN : Nat → Nat
  | 1 => 1
  | 2 => 2
  | 3 => 6
  | _ => 24
def recT (l : Nat) : Tb := ⟨l, (recN l (factN l)).2⟩
def ordD (o : List Nat) : Dv := .tup (intsN o)
def ordP (o : List Nat) : PyData := .tuple (o.map fun n => .int (n : Nat))
theorem rd_ints {M : Mem} {k : Nat} : ∀ o : List Nat, rdL (rd M k) (intsN o) = some (o.map fun n => PyData.int (n : Nat))
  | [] => rfl
  | n :: o => by
    show (match rd M k (.int (n : Nat)) with | none => none | some p => match rdL (rd M k) (intsN o) with | none => none | some ps => some (p :: ps)) = _
    rw [rd_ints o]
    cases k <;> rfl
theorem rd_ord {M : Mem} (o : List Nat) : rd M deep (ordD o) = some (ordP o) := by
  show (match rdL (rd M 29) (intsN o) with | some ps => some (PyData.tuple ps) | none => none) = _
  rw [rd_ints]; rfl
theorem rd_ords {M : Mem} : ∀ os : List (List Nat), rdL (rd M deep) (os.map ordD) = some (os.map ordP)
  | [] => rfl
  | o :: os => by
    show (match rd M deep (ordD o) with | none => none | some p => match rdL (rd M deep) (os.map ordD) with | none => none | some ps => some (p :: ps)) = _
    rw [rd_ord, rd_ords os]; rfl
theorem lay_ints : ∀ o : List Nat, PyData.canLayAll0 (o.map fun n => PyData.int (n : Nat)) = true ∧ PyData.depthAll (o.map fun n => PyData.int (n : Nat)) = 0
  | [] => ⟨rfl, rfl⟩
  | n :: o => by
    obtain ⟨h1, h2⟩ := lay_ints o
    refine ⟨?_, ?_⟩
    · rw [List.map_cons]; unfold PyData.canLayAll0; rw [h1]; rfl
    · rw [List.map_cons]; unfold PyData.depthAll; rw [h2]; rfl
theorem lay_ord (o : List Nat) : (ordP o).canLay0 = true ∧ (ordP o).depth = 1 := by
  obtain ⟨h1, h2⟩ := lay_ints o
  unfold ordP
  refine ⟨by unfold PyData.canLay0; exact h1, by unfold PyData.depth; rw [h2]⟩
theorem shaped_ord (o : List Nat) : SeqAt.shaped (ordP o) = true := by
  obtain ⟨h1, h2⟩ := lay_ord o
  unfold SeqAt.shaped
  rw [h1, h2]; rfl
theorem lay_ords : ∀ os : List (List Nat), PyData.canLayAll0 (os.map ordP) = true ∧ PyData.depthAll (os.map ordP) ≤ 1
  | [] => ⟨rfl, by decide⟩
  | o :: os => by
    obtain ⟨h1, h2⟩ := lay_ords os
    obtain ⟨h3, h4⟩ := lay_ord o
    refine ⟨?_, ?_⟩
    · rw [List.map_cons]; unfold PyData.canLayAll0; rw [h1, h3]; rfl
    · rw [List.map_cons]; unfold PyData.depthAll; rw [h4]; omega
theorem shaped_ords (os : List (List Nat)) : SeqAt.shaped (.list (os.map ordP)) = true := by
  obtain ⟨h1, h2⟩ := lay_ords os
  unfold SeqAt.shaped
  unfold PyData.canLay0 PyData.depth
  rw [h1, Bool.true_and, decide_eq_true_eq]; omega
theorem eqv_ints : ∀ a b : List Nat, PyData.eqvAll (a.map fun n => PyData.int (n : Nat)) (b.map fun n => PyData.int (n : Nat)) = (a == b)
  | [], [] => rfl
  | [], _ :: _ => rfl
  | _ :: _, [] => rfl
  | x :: a, y :: b => by
    rw [List.map_cons, List.map_cons]
    unfold PyData.eqvAll
    rw [eqv_ints a b]
    unfold PyData.eqv
    rw [List.cons_beq_cons]
    congr 1
    by_cases h : x = y
    · subst h; simp
    · have h2 : ¬ ((x : Int) = (y : Int)) := by omega
      rw [beq_eq_false_iff_ne.mpr h, beq_eq_false_iff_ne.mpr h2]
theorem eqv_ord (a b : List Nat) : PyData.eqv (ordP a) (ordP b) = (a == b) := by
  unfold ordP PyData.eqv
  exact eqv_ints a b
theorem wp_notin {M : Mem} {n : Nat} {g : List Nat} {os : List (List Nat)} {q : QE} (h : M[n]? = some (.lst (os.map ordD))) (k : q (.bl (!os.contains g)) M) : Wp (inE true (ordD g) (.loc n) M) q := by
  refine wp_ev ?_ k
  unfold inE; simp only [h]; unfold inD
  simp only [h]
  rw [if_neg (by simp [ordD, flatD]), rd_ord, rd_ords]
  simp only
  rw [if_pos ⟨shaped_ord g, shaped_ords os⟩]
  congr 4
  rw [Bool.true_xor]
  congr 1
  rw [List.any_map, List.contains_eq_any_beq]
  congr 1
  funext z
  show PyData.eqv (ordP z) (ordP g) = _
  rw [eqv_ord]
  by_cases e : z = g
  · subst e; simp
  · rw [beq_eq_false_iff_ne.mpr e, beq_eq_false_iff_ne.mpr (Ne.symm e)]
theorem wp_index {M : Mem} {n : Nat} {g : List Nat} {os : List (List Nat)} {q : QE} (h : M[n]? = some (.lst (os.map ordD))) (hg : g ∈ os) (k : q (.int (os.idxOf g : Nat)) M) : Wp (indexD (.loc n) [ordD g] M) q := by
  refine wp_ev ?_ k
  unfold indexD
  simp only [h]
  rw [if_neg (by simp [ordD, flatD]), rd_ord, rd_ords]
  simp only
  rw [if_pos ⟨shaped_ord g, shaped_ords os⟩]
  have e : (os.map ordP).findIdx? (fun z => PyData.eqv z (ordP g)) = some (os.idxOf g) := by
    rw [List.findIdx?_map]
    have e1 : ((fun z => PyData.eqv z (ordP g)) ∘ ordP) = fun z => z == g := by funext z; exact eqv_ord z g
    rw [e1]
    show os.findIdx? (fun z => z == g) = some (os.idxOf g)
    have e2 : os.findIdx (fun z => z == g) < os.length := List.findIdx_lt_length_of_exists ⟨g, hg, by simp⟩
    rw [List.findIdx?_eq_some_iff_findIdx_eq]
    exact ⟨e2, rfl⟩
  rw [e]

def unN (ys : List Dv) : List Nat := ys.map fun y => match y with
  | .int z => z.toNat
  | _ => 0
theorem unN_ints : ∀ o : List Nat, unN (intsN o) = o
  | [] => rfl
  | n :: o => by
    have := unN_ints o
    unfold unN intsN at this ⊢
    rw [List.map_cons, List.map_cons, this]
    simp
theorem map_ord {xs : List Nat} : ordD xs = .tup (intsN xs) := rfl
theorem sp_recent {l : Nat} {M : Mem} (hl : 1 ≤ l) (hl4 : l ≤ 4) : Wp (m__law_recent [.int (l : Nat)] M) fun d M' => d = tabD (recT l) ∧ Kp NoW M M' := by
  have facts : ∀ l, 1 ≤ l → l ≤ 4 → factN l ≤ 24 ∧ (recN l (factN l)).1.length = factN l ∧ ∀ i, i < factN l → i < (recN l i).1.length ∧ ((recN l i).1.getD i []).headD 0 < l ∧ ((recN l i).1.getD i []) ≠ [] ∧ (recN l i).1.length ≤ 100 ∧ ((recN l i).1.getD i []).length ≤ 4 := by
    intro l h1 h4
    match l, h1, h4 with
    | 1, _, _ => decide +kernel
    | 2, _, _ => decide +kernel
    | 3, _, _ => decide +kernel
    | 4, _, _ => decide +kernel
  obtain ⟨f1, f2, f3⟩ := facts l hl hl4
  refine wp_fn rfl [some (.int (l : Nat)), none, none, none, none, none, none, none, none] rfl ?_
  unfold b__law_recent
  simp_wf
  refine wp_tupR ?_
  simp_wf
  refine ⟨l, rfl, by omega, ?_⟩
  simp_wf
  intro o M1 e1 g1 k1 l1
  simp_wf
  intro r M2 e2 g2 k2 l2
  have g1' := k2.at g1 id
  simp_wf
  refine wp_whileI (fun m env M' => ∃ (i : Nat) (x4 x5 : Option Dv), m = factN l - i ∧ i ≤ factN l ∧ env = [some (.int (l : Nat)), some (.loc o), some (.loc r), some (.int (i : Nat)), x4, x5, none, none, none] ∧
    M'[o]? = some (.lst ((recN l i).1.map ordD)) ∧ M'[r]? = some (.lst ((recN l i).2.map rowD)) ∧ Kp NoW M M') ?_ 1000000 (factN l) _ _ (by omega) ⟨0, none, none, by omega, by omega, rfl, g1', g2, k1.tr k2⟩
  rintro m env M' ⟨i, x4, x5, rfl, hi, rfl, a1, a2, a3⟩
  simp_wf
  refine wp_lenL a1 ?_
  simp_wf
  by_cases hlt : i < factN l
  · obtain ⟨b1, b2, b3, b4, b5⟩ := f3 i hlt
    have hd : (decide ((i : Int) < (((recN l i).1.map ordD).length : Nat))) = true := decide_eq_true (by rw [List.length_map]; omega)
    rw [hd]
    generalize hos : (recN l i).1 = os at *
    generalize hhe : os.getD i [] = here at *
    have hget : os[i]? = some here := by
      rw [← hhe, List.getD_eq_getElem?_getD]
      rw [List.getElem?_eq_getElem b1]; rfl
    simp_wf
    refine wp_ixL a1 (atI_n (x := ordD here) (by rw [List.getElem?_map, hget]; rfl)) ?_
    simp_wf
    refine wp_lcP (fun x => match x with | .int z => ordD ((here.filter fun s => s != z.toNat) ++ [z.toNat]) | _ => .non) ?_
    simp_wf
    refine ⟨_, rfl, by omega, intsR l, intsR_len.symm, by rw [intsR_len]; show _ ≤ 2 ^ 24; omega, fun i M' _ _ => rng_stp, ?_, ?_⟩
    · intro x hx M3 k3
      obtain ⟨a, ha, rfl⟩ := List.mem_map.mp hx
      simp_wf
      refine wp_lcF (fun y => match y with | .int z => z != (a : Int) | _ => false) (fun y => y) ?_
      simp_wf
      refine ⟨_, rfl, intsN here, rfl, by simp [intsN]; show _ ≤ 2 ^ 24; omega, fun _ _ _ _ => rfl, ?_, ?_, ?_⟩
      · intro y hy M4 k4
        obtain ⟨b, hb, rfl⟩ := List.mem_map.mp hy
        simp_wf
        refine ⟨?_, .refl⟩
        rw [Bool.true_xor]; rfl
      · intro y hy M4 k4
        obtain ⟨b, hb, rfl⟩ := List.mem_map.mp hy
        simp_wf
        exact ⟨rfl, .refl⟩
      · intro M4 k4 g4
        simp_wf
        refine wp_tupL g4 ?_
        simp_wf
        refine wp_addT ?_ ?_
        · rw [List.map_id']
          have := List.length_filter_le (fun y : Dv => match y with | .int z => z != (a : Int) | _ => false) (intsN here)
          have h2 : (intsN here).length = here.length := by simp [intsN]
          simp only [List.length_cons, List.length_nil]
          omega
        · refine ⟨?_, k4⟩
          rw [List.map_id']
          simp only [Int.toNat_natCast, ordD, intsN, List.map_append, List.map_cons, List.map_nil]
          congr 2
          rw [List.filter_map]
          congr 1
          apply List.filter_congr
          intro s _
          show ((s : Int) != (a : Int)) = (s != a)
          by_cases e : s = a
          · subst e; simp
          · have e2 : ¬ ((s : Int) = (a : Int)) := by omega
            rw [bne_iff_ne.mpr e, bne_iff_ne.mpr e2]
    · intro M3 k3 g3
      have gs1 : (intsR l).map (fun x => match x with | .int z => ordD ((here.filter fun s => s != z.toNat) ++ [z.toNat]) | _ => .non) = (goalsN l here).map ordD := by
        unfold intsR goalsN
        rw [List.map_map, List.map_map]
        apply List.map_congr_left
        intro a _
        simp
      rw [gs1] at g3
      have gl : (goalsN l here).length = l := by simp [goalsN]
      generalize hgs : goalsN l here = gs at *
      generalize hg : M'.length = g at *
      have hrl := lt_of a2
      have hol := lt_of a1
      have a1' := k3.at a1 id
      have a2' := k3.at a2 id
      simp_wf
      refine ⟨ty_lst a1', ?_⟩
      simp_wf
      refine wp_lcF (fun y => match y with | .tup z => !os.contains (unN z) | _ => false) (fun y => y) ?_
      simp_wf
      refine ⟨_, src_loc g3, gs.map ordD, rfl, by rw [List.length_map, gl]; show _ ≤ 2 ^ 24; omega, fun i M'' k _ => stpL_at (k.at g3 id), ?_, ?_, ?_⟩
      · intro y hy M4 k4
        obtain ⟨b, hb, rfl⟩ := List.mem_map.mp hy
        simp_wf
        refine wp_notin (k4.at a1' id) ?_
        simp_wf
        refine ⟨?_, .refl⟩
        simp only [ordD, unN_ints]
      · intro y hy M4 k4
        simp_wf
        exact ⟨rfl, .refl⟩
      · intro M4 k4 g4
        have fe : ((gs.map ordD).filter fun y => match y with | .tup z => !os.contains (unN z) | _ => false) = (gs.filter fun g => !os.contains g).map ordD := by
          rw [List.filter_map]
          congr 1
          apply List.filter_congr
          intro s _
          simp only [Function.comp, ordD, unN_ints]
        rw [List.map_id', fe] at g4
        have fl := List.length_filter_le (fun g => !os.contains g) gs
        generalize hnw : (gs.filter fun g => !os.contains g) = nw at *
        have a1'' := k4.at a1' id
        have a2'' := k4.at a2' id
        have g3'' := k4.at g3 id
        simp_wf
        refine wp_extend a1'' g4 (by rw [List.length_map, List.length_map]; omega) ?_
        have n1 := lt_of a1''
        have h5 : (M4.set o (.lst (os.map ordD ++ nw.map ordD)))[o]? = some (.lst ((os ++ nw).map ordD)) := by rw [at_set a1'', List.map_append]
        have h6 : (M4.set o (.lst (os.map ordD ++ nw.map ordD)))[r]? = some (.lst ((recN l i).2.map rowD)) := at_set_ne a2'' (by omega)
        have h7 : (M4.set o (.lst (os.map ordD ++ nw.map ordD)))[g]? = some (.lst (gs.map ordD)) := at_set_ne g3'' (by omega)
        have h8 : Kp NoW M (M4.set o (.lst (os.map ordD ++ nw.map ordD))) := ((a3.tr k3).tr k4).trans (Kp.set (W := At o) fun _ => rfl) (fun n hn e => by simp only [At] at e; omega)
        generalize M4.set o (.lst (os.map ordD ++ nw.map ordD)) = M5 at *
        have mem : ∀ z ∈ gs, z ∈ os ++ nw := by
          intro z hz
          by_cases hc : z ∈ os
          · exact List.mem_append_left _ hc
          · refine List.mem_append_right _ ?_
            rw [← hnw, List.mem_filter]
            refine ⟨hz, ?_⟩
            simpa using hc
        obtain ⟨h0, ht, rfl⟩ : ∃ h0 ht, here = h0 :: ht := by
          cases here with
          | nil => exact absurd rfl b3
          | cons a b => exact ⟨a, b, rfl⟩
        have b2' : h0 < l := b2
        have hgh : gs[h0]? = some (gs.getD h0 []) := by
          rw [List.getD_eq_getElem?_getD, List.getElem?_eq_getElem (by omega)]; rfl
        simp_wf
        refine ⟨ty_lst h6, ?_⟩
        simp_wf
        refine wp_ixT (xs := intsN (h0 :: ht)) (x := .int (h0 : Nat)) (atI_n (j := 0) rfl) ?_
        simp_wf
        refine wp_or1 ?_
        simp_wf
        refine ⟨ty_lst h5, ?_⟩
        simp_wf
        refine wp_ixT (xs := intsN (h0 :: ht)) (x := .int (h0 : Nat)) (atI_n (j := 0) rfl) ?_
        simp_wf
        refine wp_ixL h7 (atI_n (x := ordD (gs.getD h0 [])) (by rw [List.getElem?_map, hgh]; rfl)) ?_
        simp_wf
        refine wp_index h5 (mem _ (List.mem_of_getElem? hgh)) ?_
        simp_wf
        refine wp_lcP (fun y => match y with | .tup z => .int ((os ++ nw).idxOf (unN z) : Nat) | _ => .non) ?_
        simp_wf
        refine ⟨_, src_loc h7, gs.map ordD, rfl, by rw [List.length_map, gl]; show _ ≤ 2 ^ 24; omega, fun i M'' k _ => stpL_at (k.at h7 id), ?_, ?_⟩
        · intro y hy M6 k6
          obtain ⟨b, hb, rfl⟩ := List.mem_map.mp hy
          refine wp_or1 ?_
          simp_wf
          refine ⟨ty_lst (k6.at h5 id), ?_⟩
          simp_wf
          refine wp_index (k6.at h5 id) (mem _ hb) ?_
          refine ⟨?_, .refl⟩
          simp only [ordD, unN_ints]
        · intro M6 k6 g6
          simp_wf
          refine wp_tupL g6 ?_
          simp_wf
          have q1 := k6.at h5 id
          have q2 := k6.at h6 id
          have hrows : ∀ j, (recN l j).2.length = j := by
            intro j
            induction j with
            | zero => rfl
            | succ j ih =>
              show (nextN l j (recN l j)).2.length = j + 1
              unfold nextN
              simp [ih]
          refine wp_append q2 (by rw [List.length_map, hrows]; show _ < 2 ^ 24; omega) ?_
          simp_wf
          refine ⟨factN l - (i + 1), by omega, i + 1, _, _, rfl, by omega, rfl, ?_, ?_, (h8.tr k6).trans (Kp.set (W := At r) fun _ => rfl) (fun n hn e => by simp only [At] at e; omega)⟩
          · rw [at_set_ne q1 (by omega)]
            have : (recN l (i + 1)).1 = os ++ nw := by
              show (nextN l i (recN l i)).1 = _
              unfold nextN
              simp only [hos, hhe, hgs, hnw]
            rw [this]
          · rw [at_set q2]
            have : (recN l (i + 1)).2 = (recN l i).2 ++ [⟨h0, (os ++ nw).idxOf (gs.getD h0 []), gs.map (os ++ nw).idxOf⟩] := by
              show (nextN l i (recN l i)).2 = _
              unfold nextN
              simp only [hos, hhe, hgs, hnw, List.headD_cons]
            rw [this, List.map_append]
            congr 3
            simp only [List.map_cons, List.map_nil, rowD, intsN, List.map_map]
            congr 4
            refine congrArg (fun z => [Dv.tup z]) ?_
            apply List.map_congr_left
            intro z _
            simp only [Function.comp, ordD, unN_ints]
  · have e : i = factN l := by omega
    subst e
    have hd : (decide (((factN l : Nat) : Int) < (((recN l (factN l)).1.map ordD).length : Nat))) = false := decide_eq_false (by rw [List.length_map, f2]; omega)
    rw [hd]
    simp_wf
    refine wp_tupL a2 ?_
    simp_wf
    exact ⟨rfl, a3⟩

instance {l n : Nat} {r : Row} : Decidable (OkR l n r) := by unfold OkR; exact inferInstance
theorem rec_ok {l : Nat} (hl : 1 ≤ l) (hl4 : l ≤ 4) : OkT (recT l) := by
  have facts : ∀ l, 1 ≤ l → l ≤ 4 → 1 ≤ (recT l).rows.length ∧ (recT l).rows.length ≤ 64 ∧ ∀ r ∈ (recT l).rows, OkR (recT l).l (recT l).rows.length r := by
    intro l h1 h4
    match l, h1, h4 with
    | 1, _, _ => decide +kernel
    | 2, _, _ => decide +kernel
    | 3, _, _ => decide +kernel
    | 4, _, _ => decide +kernel
  obtain ⟨a, b, c⟩ := facts l hl hl4
  exact ⟨hl, hl4, a, b, c⟩
end L77

/-! text A8_77 -/
namespace L77
open PySem L2 PySem.Spec PyProof.Rows Zl
theorem sp_row {l n : Nat} {r : Row} {M : Mem} (h : OkR l n r) (hl : l ≤ 100) : Wp (m_is_row [rowD r, .int (l : Nat), .int (n : Nat)] M) fun d M' => d = .bl true ∧ Kp NoW M M' := by
  obtain ⟨h1, h2, h3, h4⟩ := h
  unfold rowD
  refine wp_fn rfl [some (.tup [.int (r.v : Nat), .int (r.s : Nat), .tup (intsN r.hits)]), some (.int (l : Nat)), some (.int (n : Nat)), none] rfl ?_
  unfold b_is_row
  simp_wf
  refine ki_of (c := false) rfl ?_
  simp_wf
  refine ki_of (c := false) rfl ?_
  simp_wf
  refine (sp_between (by omega) (by omega)).go fun d M' ⟨e1, e2⟩ => ?_
  subst e1 e2
  simp_wf
  refine ki_of (c := false) rfl ?_
  simp_wf
  refine (sp_between (by omega) (by omega)).go fun d M' ⟨e1, e2⟩ => ?_
  subst e1 e2
  simp_wf
  refine ki_of (c := false) rfl ?_
  simp_wf
  refine ki_of (c := false) rfl ?_
  simp_wf
  refine ki_of (c := false) (by simp [intsN, h3]) ?_
  simp_wf
  refine wp_lcP (fun _ => .bl true) ?_
  simp_wf
  refine ⟨_, rfl, intsN r.hits, rfl, by simp [intsN, h3]; show _ ≤ 2 ^ 24; omega, fun _ _ _ _ => rfl, ?_, ?_⟩
  · intro x hx M1 k1
    obtain ⟨a, ha, rfl⟩ := List.mem_map.mp hx
    have := h4 a ha
    simp_wf
    refine (sp_between (by omega) (by omega)).go fun d M' ⟨e1, e2⟩ => ?_
    subst e1 e2
    exact ⟨rfl, .refl⟩
  · intro M1 k1 g1
    simp_wf
    refine wp_all g1 (bls_all (by simp)) ?_
    simp_wf
    refine ⟨?_, k1⟩
    simp
theorem sp_isPolicy {t : Tb} {M : Mem} (h : OkT t) : Wp (m_is_policy [tabD t] M) fun d M' => d = .bl true ∧ Kp NoW M M' := by
  obtain ⟨h1, h2, h3, h4, h5⟩ := h
  unfold tabD
  refine wp_fn rfl [some (.tup [.int (t.l : Nat), .tup (t.rows.map rowD)]), none, none, none] rfl ?_
  unfold b_is_policy c_MOST_LINES c_MOST_STATES
  simp_wf
  refine ki_of (c := false) rfl ?_
  simp_wf
  refine ki_of (c := false) rfl ?_
  simp_wf
  refine (sp_between (by omega) (by omega)).go fun d M' ⟨e1, e2⟩ => ?_
  subst e1 e2
  simp_wf
  refine ki_of (c := false) rfl ?_
  simp_wf
  refine ki_of (c := false) rfl ?_
  simp_wf
  refine kc_of (c := true) (decide_eq_true (by rw [List.length_map]; omega)) ?_
  simp_wf
  refine ki_of (c := false) (by rw [decide_eq_true (by rw [List.length_map]; omega)]; rfl) ?_
  simp_wf
  refine wp_lcP (fun _ => .bl true) ?_
  simp_wf
  refine ⟨_, rfl, t.rows.map rowD, rfl, by rw [List.length_map]; show _ ≤ 2 ^ 24; omega, fun _ _ _ _ => rfl, ?_, ?_⟩
  · intro x hx M1 k1
    obtain ⟨a, ha, rfl⟩ := List.mem_map.mp hx
    simp_wf
    have := h5 a ha
    rw [List.length_map]
    exact sp_row this (by omega)
  · intro M1 k1 g1
    simp_wf
    refine wp_all g1 (bls_all (by simp)) ?_
    simp_wf
    refine ⟨?_, k1⟩
    simp
end L77

/-! text A4_77 -/
namespace L77
open PySem L2 PySem.Spec PyProof.Rows Zl
/-! ## the program: what is valid -/
/-! devices -/
inductive Mode where
  | plain
  | incl
  | vict
  deriving DecidableEq
def Mode.s : Mode → Str
  | .plain => "plain"
  | .incl => "inclusive"
  | .vict => "victim"
inductive Dev where
  | one (t : Tb)
  | two (m : Mode) (t u : Tb)
def Dev.tabs : Dev → List Tb
  | .one t => [t]
  | .two _ t u => [t, u]
def Dev.mode : Dev → Str
  | .one _ => "cache"
  | .two m _ _ => m.s
def devD (D : Dev) : Dv := .tup (.str D.mode :: D.tabs.map tabD)
def OkV (D : Dev) : Prop := ∀ t ∈ D.tabs, OkT t
theorem lc_pol {ts : List Tb} (hts : ∀ t ∈ ts, OkT t) (h2 : ts.length ≤ 2) {M : Mem} {x : Str} {q : QE} (hq : ∀ n M', Kp NoW M M' → M'[n]? = some (.lst (ts.map fun _ => Dv.bl true)) → q (.loc n) M') :
    Wp (fComp (fSrc (fSl (fV 0) (fP (fK (.int 1))) fNoP)) [1] (gN 1) fYes (fCall 1 m_is_policy (fCons (fV 1) fNil)) [some (.tup (.str x :: ts.map tabD)), none] M) q := by
  refine wq_map (fun _ => .bl true) ?_
  array_get_dec
  have e : Zl.cutD (Dv.str x :: ts.map tabD) (some 1) none = ts.map tabD := by
    unfold Zl.cutD
    simp [HT.sIx]
    exact List.take_of_length_le (by simp)
  rw [e]
  refine k_mapT (size_le (by simp; omega)) ?_ ?_
  · intro y hy M1 k1
    obtain ⟨t, ht, rfl⟩ := List.mem_map.mp hy
    array_get_dec
    exact sp_isPolicy (hts t ht)
  · intro n M1 e1 l1 k1 g1
    exact hq n M1 k1 (by rw [g1, List.map_map]; rfl)
theorem sp_isDevice {D : Dev} {M : Mem} (h : OkV D) : Wp (m_is_device [devD D] M) fun d M' => d = .bl true ∧ Kp NoW M M' := by
  rcases D with t | ⟨m, t, u⟩
  · refine wp_fn rfl [some (.tup [.str "cache", tabD t]), none] rfl ?_
    unfold b_is_device
    array_get_dec
    repeat (first | (refine ki_of (c := false) rfl ?_; array_get_dec) | (refine ki_of (c := true) rfl ?_; array_get_dec) | (refine wp_ev (a := .bl false) rfl ?_; array_get_dec) | (refine wp_ev (a := .bl true) rfl ?_; array_get_dec))
    refine lc_pol (ts := [t]) h (by show 1 ≤ 2; decide) fun n M1 k1 g1 => ?_
    array_get_dec
    refine wp_all g1 (bls_all (by simp)) ?_
    array_get_dec
    exact ⟨by simp, k1⟩
  · refine wp_fn rfl [some (.tup [.str m.s, tabD t, tabD u]), none] rfl ?_
    unfold b_is_device c_LEVELS
    cases m <;> array_get_dec <;> repeat (first | (refine ki_of (c := false) rfl ?_; array_get_dec) | (refine ki_of (c := true) rfl ?_; array_get_dec) | (refine wp_ev (a := .bl false) rfl ?_; array_get_dec) | (refine wp_ev (a := .bl true) rfl ?_; array_get_dec))
    all_goals
      refine lc_pol (ts := [t, u]) h (by show 2 ≤ 2; decide) fun n M1 k1 g1 => ?_
      array_get_dec
      refine wp_all g1 (bls_all (by simp)) ?_
      array_get_dec
      exact ⟨by simp, k1⟩
theorem sp_checkDevice {D : Dev} {M : Mem} (h : OkV D) : Wp (m_check_device [devD D] M) fun d M' => Kp NoW M M' := by
  refine wp_fn rfl [some (devD D)] rfl ?_
  unfold b_check_device
  array_get_dec
  refine (sp_isDevice h).go ?_
  rintro _ M1 ⟨rfl, k1⟩
  array_get_dec
  refine ki_of (c := false) (by ac_nf0) ?_
  array_get_dec
  exact k1
end L77

/-! text A5_77 -/
namespace L77
open PySem L2 PySem.Spec PyProof.Rows Zl
/-! ## the pure run of a device -/
abbrev Ln := List (Option Str)
abbrev St1 := Nat × Ln
def lnD : Option Str → Dv
  | none => .non
  | some x => .str x
def linesD (ls : Ln) : List Dv := ls.map lnD
def isIn (ls : Ln) (x : Str) : Bool := ls.contains (some x)
def idx (ls : Ln) (x : Str) : Nat := ls.idxOf (some x)
def rowOf (t : Tb) (st : Nat) : Row := t.rows.getD st ⟨0, 0, []⟩
def hitS (t : Tb) (s j : Nat) : Nat := (rowOf t s).hits.getD j 0
def goneS (t : Tb) (p : St1) : Option Str := p.2.getD (rowOf t p.1).v none
def touchS (t : Tb) (p : St1) (j : Nat) : St1 := (hitS t p.1 j, p.2)
def fillS (t : Tb) (p : St1) (x : Str) : St1 := ((rowOf t p.1).s, p.2.set (rowOf t p.1).v (some x))
def downS (m : Mode) (u : Tb) (p q : St1) (x : Str) (gone : Option Str) : List St1 := match m with
  | .vict => if isIn q.2 x then [p, (hitS u q.1 (idx q.2 x), q.2.set (idx q.2 x) gone)] else match gone with
    | some y => [p, fillS u q y]
    | none => [p, q]
  | .plain => if isIn q.2 x then [p, touchS u q (idx q.2 x)] else [p, fillS u q x]
  | .incl => if isIn q.2 x then [p, touchS u q (idx q.2 x)] else match goneS u q with
    | some y => if isIn p.2 y then [(p.1, p.2.set (idx p.2 y) none), fillS u q x] else [p, fillS u q x]
    | none => [p, fillS u q x]
def askS (D : Dev) (st : List St1) (x : Str) : List St1 := match D, st with
  | .one t, [p] => if isIn p.2 x then [touchS t p (idx p.2 x)] else [fillS t p x]
  | .two m t u, [p, q] => if isIn p.2 x then [touchS t p (idx p.2 x), q] else downS m u (fillS t p x) q x (goneS t p)
  | _, st => st
def heldS (st : List St1) (x : Str) : Bool := st.any fun p => isIn p.2 x
def runS (D : Dev) : List St1 → List Str → List Bool
  | _, [] => []
  | p, x :: xs => heldS p x :: runS D (askS D p x) xs
def endS (D : Dev) : List St1 → List Str → List St1
  | p, [] => p
  | p, x :: xs => endS D (askS D p x) xs
def startP (t : Tb) : St1 := (0, List.replicate t.l none)
def startS (D : Dev) : List St1 := D.tabs.map startP
theorem runS_snoc {D : Dev} {x : Str} : ∀ {xs : List Str} {p : List St1}, runS D p (xs ++ [x]) = runS D p xs ++ [heldS (endS D p xs) x]
  | [], _ => rfl
  | y :: ys, p => by
    rw [List.cons_append]
    unfold runS endS
    rw [runS_snoc]; rfl
theorem endS_snoc {D : Dev} {x : Str} : ∀ {xs : List Str} {p : List St1}, endS D p (xs ++ [x]) = askS D (endS D p xs) x
  | [], _ => rfl
  | y :: ys, p => by
    rw [List.cons_append]
    unfold endS
    rw [endS_snoc]
theorem runS_len {D : Dev} : ∀ {xs : List Str} {p : List St1}, (runS D p xs).length = xs.length
  | [], _ => rfl
  | y :: ys, p => by unfold runS; rw [List.length_cons, List.length_cons, runS_len]
theorem runS_take {D : Dev} : ∀ {xs : List Str} {p : List St1} {c : Nat}, runS D p (xs.take c) = (runS D p xs).take c
  | [], _, c => by simp [runS]
  | y :: ys, p, 0 => by simp [runS]
  | y :: ys, p, c + 1 => by
    rw [List.take_succ_cons]
    unfold runS
    rw [runS_take, List.take_succ_cons]
/-- a level that fits its table -/
def OkP (t : Tb) (p : St1) : Prop := p.1 < t.rows.length ∧ p.2.length = t.l
inductive Fits : List Tb → List St1 → Prop
  | nil : Fits [] []
  | cons {t : Tb} {p : St1} {ts : List Tb} {ps : List St1} : OkP t p → Fits ts ps → Fits (t :: ts) (p :: ps)
def OkSt (D : Dev) (st : List St1) : Prop := Fits D.tabs st
theorem Fits.len : ∀ {ts : List Tb} {ps : List St1}, Fits ts ps → ps.length = ts.length
  | _, _, .nil => rfl
  | _, _, .cons _ r => by rw [List.length_cons, List.length_cons, r.len]
theorem Fits.get : ∀ {ts : List Tb} {ps : List St1} {i : Nat} {p : St1}, Fits ts ps → ps[i]? = some p → ∃ t, ts[i]? = some t ∧ OkP t p
  | _, _, _, _, .nil, e => by simp at e
  | _, _, 0, _, .cons h _, e => by simp at e; subst e; exact ⟨_, rfl, h⟩
  | _, _, i + 1, p, .cons _ r, e => by
    obtain ⟨t, h1, h2⟩ := Fits.get (i := i) (p := p) r (by simpa using e)
    exact ⟨t, by simpa using h1, h2⟩
theorem row_get {t : Tb} {st : Nat} (h : st < t.rows.length) : t.rows[st]? = some (rowOf t st) := by
  unfold rowOf
  rw [List.getD_eq_getElem?_getD, List.getElem?_eq_getElem h]; rfl
theorem row_ok {t : Tb} (h : OkT t) {st : Nat} (hs : st < t.rows.length) : OkR t.l t.rows.length (rowOf t st) := h.ok _ (List.mem_of_getElem? (row_get hs))
theorem hit_lt {t : Tb} (h : OkT t) {s : Nat} (hs : s < t.rows.length) {j : Nat} (hj : j < t.l) : hitS t s j < t.rows.length := by
  obtain ⟨_, _, r3, r4⟩ := row_ok h hs
  unfold hitS
  rw [List.getD_eq_getElem?_getD, List.getElem?_eq_getElem (by omega)]
  exact r4 _ (List.getElem_mem _)
theorem idx_lt {ls : Ln} {x : Str} (h : isIn ls x = true) : idx ls x < ls.length := by
  unfold isIn at h
  exact List.idxOf_lt_length_of_mem (by simpa using h)
theorem touch_ok {t : Tb} (h : OkT t) {p : St1} (hp : OkP t p) {j : Nat} (hj : j < t.l) : OkP t (touchS t p j) := ⟨hit_lt h hp.1 hj, hp.2⟩
theorem fill_ok {t : Tb} (h : OkT t) {p : St1} (hp : OkP t p) {x : Str} : OkP t (fillS t p x) := ⟨(row_ok h hp.1).2.1, by simp [fillS, hp.2]⟩
theorem down_ok {m : Mode} {t u : Tb} {p q : St1} {x : Str} {g : Option Str} (hu : OkT u) (hp : OkP t p) (hq : OkP u q) : Fits [t, u] (downS m u p q x g) := by
  cases m <;> simp only [downS] <;> split
  all_goals first
    | exact .cons hp (.cons (touch_ok hu hq (by have := idx_lt (by assumption); rw [← hq.2]; exact this)) .nil)
    | exact .cons hp (.cons (fill_ok hu hq) .nil)
    | skip
  · split
    · split
      · exact .cons ⟨hp.1, by simp [hp.2]⟩ (.cons (fill_ok hu hq) .nil)
      · exact .cons hp (.cons (fill_ok hu hq) .nil)
    · exact .cons hp (.cons (fill_ok hu hq) .nil)
  · exact .cons hp (.cons ⟨hit_lt hu hq.1 (by rw [← hq.2]; exact idx_lt (by assumption)), by simp [hq.2]⟩ .nil)
  · split
    · exact .cons hp (.cons (fill_ok hu hq) .nil)
    · exact .cons hp (.cons hq .nil)
theorem ask_ok {D : Dev} (h : OkV D) {st : List St1} (hs : OkSt D st) (x : Str) : OkSt D (askS D st x) := by
  cases D with
  | one t =>
    cases hs with
    | cons hp r =>
      cases r
      have ht : OkT t := h t (by simp [Dev.tabs])
      unfold askS
      simp only
      split
      · exact .cons (touch_ok ht hp (by rw [← hp.2]; exact idx_lt (by assumption))) .nil
      · exact .cons (fill_ok ht hp) .nil
  | two m t u =>
    cases hs with
    | cons hp r =>
      cases r with
      | cons hq r =>
        cases r
        have ht : OkT t := h t (by simp [Dev.tabs])
        have hu : OkT u := h u (by simp [Dev.tabs])
        unfold askS
        simp only
        split
        · exact .cons (touch_ok ht hp (by rw [← hp.2]; exact idx_lt (by assumption))) (.cons hq .nil)
        · exact down_ok hu (fill_ok ht hp) hq
theorem end_ok {D : Dev} (h : OkV D) : ∀ {xs : List Str} {st : List St1}, OkSt D st → OkSt D (endS D st xs)
  | [], _, hs => hs
  | x :: xs, _, hs => by
    unfold endS
    exact end_ok h (ask_ok h hs x)
theorem startP_ok {t : Tb} (h : OkT t) : OkP t (startP t) := ⟨h.r1, by simp [startP]⟩
theorem start_ok {D : Dev} (h : OkV D) : OkSt D (startS D) := by
  cases D with
  | one t => exact .cons (startP_ok (h t (by simp [Dev.tabs]))) .nil
  | two m t u => exact .cons (startP_ok (h t (by simp [Dev.tabs]))) (.cons (startP_ok (h u (by simp [Dev.tabs]))) .nil)
/-! lines as data -/
theorem lines_flat (ls : Ln) : (linesD ls).all flatD = true := by
  simp only [linesD, List.all_map, List.all_eq_true]
  intro o _
  cases o <;> rfl
theorem eq_ln {o : Option Str} {x : Str} : eqF (lnD o) (.str x) = (o == some x) := by
  cases o with
  | none => rfl
  | some y => show (y == x) = _; rw [Option.some_beq_some]
theorem any_lines {ls : Ln} {x : Str} : ((linesD ls).any fun y => eqF y (.str x)) = isIn ls x := by
  unfold isIn linesD
  rw [List.any_map, List.contains_eq_any_beq]
  congr 1
  funext o
  show eqF (lnD o) (.str x) = _
  rw [eq_ln, BEq.comm]
theorem idxB_lines {x : Str} : ∀ {ls : Ln}, isIn ls x = true → idxB (fun y => eqF y (.str x)) (linesD ls) = some (idx ls x)
  | [], h => by simp [isIn] at h
  | o :: ls, h => by
    unfold linesD
    rw [List.map_cons]
    unfold idxB
    rw [eq_ln]
    unfold idx
    rw [List.idxOf_cons]
    by_cases e : (o == some x) = true
    · rw [if_pos e, e]; rfl
    · have e' : (o == some x) = false := (Bool.not_eq_true _).mp e
      rw [if_neg e, e']
      have h2 : isIn ls x = true := by
        unfold isIn at h ⊢
        rw [List.contains_cons] at h
        rw [BEq.comm, e', Bool.false_or] at h; exact h
      have := idxB_lines (ls := ls) h2
      unfold linesD idx at this
      rw [this]; rfl
theorem wp_inLn {b : Bool} {n : Nat} {x : Str} {ls : Ln} {M : Mem} {q : QE} (h : M[n]? = some (.lst (linesD ls))) (k : q (.bl (xor b (isIn ls x))) M) : Wp (inE b (.str x) (.loc n) M) q :=
  wp_inL h rfl (lines_flat ls) (by rw [any_lines]; exact k)
theorem wp_indexLn {n : Nat} {x : Str} {ls : Ln} {M : Mem} {q : QE} (h : M[n]? = some (.lst (linesD ls))) (hx : isIn ls x = true) (k : q (.int (idx ls x : Nat)) M) : Wp (indexD (.loc n) [.str x] M) q :=
  wp_indexL h rfl (lines_flat ls) (idxB_lines hx) k
theorem lines_get {ls : Ln} {i : Nat} (h : i < ls.length) : (linesD ls)[i]? = some (lnD (ls.getD i none)) := by
  unfold linesD
  rw [List.getElem?_map, List.getD_eq_getElem?_getD, List.getElem?_eq_getElem h]; rfl
theorem lines_set {ls : Ln} {i : Nat} {o : Option Str} : (linesD ls).set i (lnD o) = linesD (ls.set i o) := by
  unfold linesD; rw [List.map_set]
theorem rep_non {k : Nat} : (List.replicate k [Dv.non]).flatten = linesD (List.replicate k none) := by
  induction k with
  | zero => rfl
  | succ k ih => rw [List.replicate_succ, List.flatten_cons, ih]; rfl
end L77

/-! text A6_77 -/
namespace L77
open PySem L2 PySem.Spec PyProof.Rows Zl
/-! ## the program's box -/
def boxF (D : Dev) (s r : Nat) : List (Str × Dv) := [("mode", .str D.mode), ("policies", .tup (D.tabs.map tabD)), ("stages", .loc s), ("rows", .loc r)]
def stagesD (st : List St1) : List Dv := st.map fun p => .int (p.1 : Nat)
structure BoxAt (D : Dev) (b s r : Nat) (ls : List Nat) (st : List St1) (M : Mem) : Prop where
  hb : M[b]? = some (.ins 0 (boxF D s r))
  hs : M[s]? = some (.lst (stagesD st))
  hr : M[r]? = some (.lst (ls.map Dv.loc))
  hl : ∀ (i l : Nat) p, ls[i]? = some l → st[i]? = some p → M[l]? = some (.lst (linesD p.2))
  nd : ls.Nodup
  bs : b ≠ s
  br : b ≠ r
  sr : s ≠ r
  bl : b ∉ ls
  sl : s ∉ ls
  rl : r ∉ ls
abbrev BW (s : Nat) (ls : List Nat) : Nat → Prop := fun n => n = s ∨ n ∈ ls
section
variable {D : Dev} {b s r i l j : Nat} {ls : List Nat} {st : List St1} {p : St1} {t : Tb} {M : Mem} {x : Str}
theorem BoxAt.kp {M' : Mem} {W : Nat → Prop} (h : BoxAt D b s r ls st M) (k : Kp W M M') (wb : ¬ W b) (ws : ¬ W s) (wr : ¬ W r) (wl : ∀ l ∈ ls, ¬ W l) : BoxAt D b s r ls st M' :=
  ⟨k.at h.hb wb, k.at h.hs ws, k.at h.hr wr, fun i l p h1 h2 => k.at (h.hl i l p h1 h2) (wl l (List.mem_of_getElem? h1)), h.nd, h.bs, h.br, h.sr, h.bl, h.sl, h.rl⟩
theorem BoxAt.kpN {M' : Mem} (h : BoxAt D b s r ls st M) (k : Kp NoW M M') : BoxAt D b s r ls st M' := h.kp k id id id fun _ _ => id
theorem BoxAt.putS {n : Nat} (h : BoxAt D b s r ls st M) (hp : st[i]? = some p) : BoxAt D b s r ls (st.set i (n, p.2)) (M.set s (.lst ((stagesD st).set i (.int (n : Nat))))) := by
  refine ⟨at_set_ne h.hb h.bs.symm, ?_, at_set_ne h.hr h.sr, fun i' l' p' h1 h2 => ?_, h.nd, h.bs, h.br, h.sr, h.bl, h.sl, h.rl⟩
  · rw [at_set h.hs]; unfold stagesD; rw [List.map_set]
  · have ne : s ≠ l' := fun e => h.sl (e ▸ List.mem_of_getElem? h1)
    refine at_set_ne ?_ ne
    by_cases e : i = i'
    · subst e
      rw [List.getElem?_set_self (List.getElem?_eq_some_iff.mp hp).1] at h2
      cases h2
      exact h.hl i l' p h1 hp
    · rw [List.getElem?_set_ne e] at h2
      exact h.hl i' l' p' h1 h2
theorem BoxAt.putL {ns : Ln} (h : BoxAt D b s r ls st M) (hl : ls[i]? = some l) (hp : st[i]? = some p) : BoxAt D b s r ls (st.set i (p.1, ns)) (M.set l (.lst (linesD ns))) := by
  have hm := List.mem_of_getElem? hl
  refine ⟨at_set_ne h.hb fun e => h.bl (e ▸ hm), ?_, at_set_ne h.hr fun e => h.rl (e ▸ hm), fun i' l' p' h1 h2 => ?_, h.nd, h.bs, h.br, h.sr, h.bl, h.sl, h.rl⟩
  · rw [at_set_ne h.hs fun e => h.sl (e ▸ hm)]
    unfold stagesD
    rw [List.map_set]
    congr 2
    refine (List.ext_getElem? fun m => ?_).symm
    by_cases e : i = m
    · subst e
      rw [List.getElem?_set_self (by simpa using (List.getElem?_eq_some_iff.mp hp).1), List.getElem?_map, hp]; rfl
    · rw [List.getElem?_set_ne e]
  · by_cases e : i = i'
    · subst e
      rw [hl] at h1; cases h1
      rw [List.getElem?_set_self (List.getElem?_eq_some_iff.mp hp).1] at h2
      cases h2
      exact at_set (h.hl i l p hl hp)
    · rw [List.getElem?_set_ne e] at h2
      refine at_set_ne (h.hl i' l' p' h1 h2) fun z => e ?_
      subst z
      obtain ⟨i1, e1⟩ := List.getElem?_eq_some_iff.mp hl
      obtain ⟨i2, e2⟩ := List.getElem?_eq_some_iff.mp h1
      exact (List.getElem_inj h.nd).mp (e1.trans e2.symm)
theorem sp_told (h : BoxAt D b s r ls st M) (ht : D.tabs[i]? = some t) (hp : st[i]? = some p) (ok : OkP t p) : Wp (m_Box_told [.loc b, .int (i : Nat)] M) fun d M' => d = rowD (rowOf t p.1) ∧ M' = M := by
  have hb := h.hb
  have hs := h.hs
  have e1 : (D.tabs.map tabD)[i]? = some (.tup [.int (t.l : Nat), .tup (t.rows.map rowD)]) := by rw [List.getElem?_map, ht]; rfl
  have e2 : (stagesD st)[i]? = some (.int (p.1 : Nat)) := by unfold stagesD; rw [List.getElem?_map, hp]; rfl
  have e3 : (t.rows.map rowD)[p.1]? = some (rowD (rowOf t p.1)) := by rw [List.getElem?_map, row_get ok.1]; rfl
  refine wp_fn rfl [some (.loc b), some (.int (i : Nat))] rfl ?_
  unfold b_Box_told
  unfold boxF at hb
  array_get_dec
  exact ⟨rfl, rfl⟩
theorem sp_touch (h : BoxAt D b s r ls st M) (ht : D.tabs[i]? = some t) (hp : st[i]? = some p) (hT : OkT t) (ok : OkP t p) (hj : j < t.l) :
    Wp (m_Box_touch [.loc b, .int (i : Nat), .int (j : Nat)] M) fun _ M' => BoxAt D b s r ls (st.set i (touchS t p j)) M' ∧ Kp (BW s ls) M M' := by
  have hb := h.hb
  have hs := h.hs
  obtain ⟨r1, r2, r3, r4⟩ := row_ok hT ok.1
  have e1 : (intsN (rowOf t p.1).hits)[j]? = some (.int (hitS t p.1 j : Nat)) := by
    unfold intsN hitS
    rw [List.getElem?_map, List.getD_eq_getElem?_getD, List.getElem?_eq_getElem (by omega)]; rfl
  have e2 : ixN (stagesD st).length (i : Nat) = some i := ixN_n (by simpa [stagesD] using (List.getElem?_eq_some_iff.mp hp).1)
  refine wp_fn rfl [some (.loc b), some (.int (i : Nat)), some (.int (j : Nat))] rfl ?_
  unfold b_Box_touch
  unfold boxF at hb
  array_get_dec
  refine (sp_told h ht hp ok).go ?_
  rintro _ M1 ⟨rfl, rfl⟩
  unfold rowD
  array_get_dec
  refine k_set hs e2 ?_
  array_get_dec
  exact ⟨h.putS hp, .set fun _ => .inl rfl⟩
theorem sp_fill (h : BoxAt D b s r ls st M) (ht : D.tabs[i]? = some t) (hp : st[i]? = some p) (hl : ls[i]? = some l) (hT : OkT t) (ok : OkP t p) :
    Wp (m_Box_fill [.loc b, .int (i : Nat), .str x] M) fun d M' => d = lnD (goneS t p) ∧ BoxAt D b s r ls (st.set i (fillS t p x)) M' ∧ Kp (BW s ls) M M' := by
  have hb := h.hb
  have hs := h.hs
  have hr := h.hr
  have hll := h.hl i l p hl hp
  obtain ⟨r1, r2, r3, r4⟩ := row_ok hT ok.1
  have hv : (rowOf t p.1).v < p.2.length := by rw [ok.2]; exact r1
  have e1 : (ls.map Dv.loc)[i]? = some (.loc l) := by rw [List.getElem?_map, hl]; rfl
  have e3 := lines_get hv
  have h2 := h.putL (ns := p.2.set (rowOf t p.1).v (some x)) hl hp
  have hp2 : (st.set i (p.1, p.2.set (rowOf t p.1).v (some x)))[i]? = some (p.1, p.2.set (rowOf t p.1).v (some x)) := List.getElem?_set_self (List.getElem?_eq_some_iff.mp hp).1
  have e2 : ixN (stagesD (st.set i (p.1, p.2.set (rowOf t p.1).v (some x)))).length (i : Nat) = some i := ixN_n (by simpa [stagesD] using (List.getElem?_eq_some_iff.mp hp).1)
  refine wp_fn rfl [some (.loc b), some (.int (i : Nat)), some (.str x), none, none, none, none] rfl ?_
  unfold b_Box_fill
  unfold boxF at hb
  array_get_dec
  refine (sp_told h ht hp ok).go ?_
  rintro _ M1 ⟨rfl, rfl⟩
  unfold rowD
  array_get_dec
  refine k_setN hll (by simpa [linesD] using hv) ?_
  rw [show (Dv.str x) = lnD (some x) from rfl, lines_set]
  have hb2 := h2.hb
  have hs2 := h2.hs
  have kk : Kp (BW s ls) M1 (M1.set l (.lst (linesD (p.2.set (rowOf t p.1).v (some x))))) := .set fun _ => .inr (List.mem_of_getElem? hl)
  generalize M1.set l (.lst (linesD (p.2.set (rowOf t p.1).v (some x)))) = M2 at *
  unfold boxF at hb2
  array_get_dec
  refine k_set hs2 e2 ?_
  array_get_dec
  refine ⟨rfl, ?_, kk.tr (.set fun _ => .inl rfl)⟩
  have := h2.putS (n := (rowOf t p.1).s) hp2
  rw [List.set_set] at this
  exact this
theorem bls_map : ∀ bs : List Bool, blsD (bs.map Dv.bl) = some bs
  | [] => rfl
  | b :: bs => by
    rw [List.map_cons]
    unfold blsD
    rw [bls_map bs]
theorem wp_anyL {n : Nat} {bs : List Bool} {M : Mem} {q : QE} (hm : M[n]? = some (.lst (bs.map Dv.bl))) (k : q (.bl (bs.any id)) M) : Wp (anyD [.loc n] M) q := wp_any hm (bls_map bs) k
theorem sp_holds (h : BoxAt D b s r ls st M) (hlen : ls.length = st.length) (h2 : ls.length ≤ 2) : Wp (m_Box_holds [.loc b, .str x] M) fun d M' => d = .bl (heldS st x) ∧ Kp NoW M M' := by
  have hb := h.hb
  have hr := h.hr
  refine wp_fn rfl [some (.loc b), some (.str x), none] rfl ?_
  unfold b_Box_holds
  array_get_dec
  refine wq_map (fun y => match y with
    | .loc l => match M[l]? with
      | some (.lst ys) => .bl (ys.any fun y => eqF y (.str x))
      | _ => .non
    | _ => .non) ?_
  array_get_dec
  refine k_mapL hr (size_le (by simp; omega)) ?_ ?_
  · intro y hy M1 k1
    obtain ⟨l, hl, rfl⟩ := List.mem_map.mp hy
    obtain ⟨i, hi⟩ := List.getElem?_of_mem hl
    have hi2 : i < st.length := by rw [← hlen]; exact (List.getElem?_eq_some_iff.mp hi).1
    have hll := h.hl i l _ hi (List.getElem?_eq_getElem hi2)
    array_get_dec
    refine wp_inLn (k1.at hll id) ?_
    refine ⟨?_, .refl⟩
    simp only [hll, any_lines, Bool.false_xor]
  · intro n M1 e1 l1 k1 g1
    have e : (ls.map Dv.loc).map (fun y => match y with
      | .loc l => match M[l]? with
        | some (.lst ys) => .bl (ys.any fun y => eqF y (.str x))
        | _ => .non
      | _ => .non) = (st.map fun p => isIn p.2 x).map Dv.bl := by
      refine List.ext_getElem? fun i => ?_
      rw [List.map_map, List.map_map, List.getElem?_map, List.getElem?_map]
      by_cases hi : i < ls.length
      · have hi2 : i < st.length := by rw [← hlen]; exact hi
        have hll := h.hl i _ _ (List.getElem?_eq_getElem hi) (List.getElem?_eq_getElem hi2)
        rw [List.getElem?_eq_getElem hi, List.getElem?_eq_getElem hi2]
        simp only [Option.map_some, Function.comp, hll, any_lines]
      · rw [List.getElem?_eq_none (by omega), List.getElem?_eq_none (by omega)]; rfl
    rw [e] at g1
    array_get_dec
    refine wp_anyL g1 ?_
    array_get_dec
    refine ⟨?_, k1⟩
    unfold heldS
    rw [List.any_map]; rfl
theorem lnD_is {o : Option Str} : isNon (lnD o) = o.isNone := by cases o <;> rfl
/-- the way down, for two levels -/
theorem sp_down {m : Mode} {t u : Tb} {l0 l1 : Nat} {p q : St1} {g : Option Str} (h : BoxAt (.two m t u) b s r [l0, l1] [p, q] M) (ht : OkT t) (hu : OkT u) (hp : OkP t p) (hq : OkP u q) :
    Wp (m_Box_go_down [.loc b, .str x, lnD g] M) fun _ M' => BoxAt (.two m t u) b s r [l0, l1] (downS m u p q x g) M' ∧ Kp (BW s [l0, l1]) M M' := by
  have hb := h.hb
  have hr : M[r]? = some (.lst [.loc l0, .loc l1]) := h.hr
  have hl0 := h.hl 0 l0 p rfl rfl
  have hl1 := h.hl 1 l1 q rfl rfl
  refine wp_fn rfl [some (.loc b), some (.str x), some (lnD g), none, none, none, none] rfl ?_
  unfold b_Box_go_down
  array_get_dec
  cases m with
  | vict =>
    refine ki_of (c := true) (by ac_nf0) ?_
    array_get_dec
    refine wp_inLn hl1 ?_
    array_get_dec
    rw [Bool.false_xor]
    cases hx : isIn q.2 x with
    | true =>
      array_get_dec
      refine wp_or1 ?_
      array_get_dec
      refine wp_indexLn hl1 hx ?_
      have hi := idx_lt hx
      array_get_dec
      refine k_setN hl1 (by simpa [linesD] using hi) ?_
      rw [lines_set]
      have h2 := h.putL (i := 1) (ns := q.2.set (idx q.2 x) g) rfl rfl
      have kk : Kp (BW s [l0, l1]) M (M.set l1 (.lst (linesD (q.2.set (idx q.2 x) g)))) := .set fun _ => .inr (by simp)
      generalize M.set l1 (.lst (linesD (q.2.set (idx q.2 x) g))) = M2 at *
      have hb2 := h2.hb
      array_get_dec
      refine (sp_touch (i := 1) (t := u) (p := (q.1, q.2.set (idx q.2 x) g)) (j := idx q.2 x) h2 rfl rfl hu ⟨hq.1, by simp [hq.2]⟩ (by rw [← hq.2]; exact hi)).go ?_
      rintro _ M3 ⟨h3, k3⟩
      array_get_dec
      refine ⟨?_, kk.tr k3⟩
      unfold downS
      rw [if_pos hx]
      exact h3
    | false =>
      array_get_dec
      cases g with
      | none =>
        refine wp_ev (a := .bl false) rfl ?_
        array_get_dec
        refine ⟨?_, .refl⟩
        simp only [downS, hx]
        exact h
      | some y =>
        refine wp_ev (a := .bl true) rfl ?_
        array_get_dec
        refine (sp_fill (i := 1) (t := u) (p := q) (l := l1) (x := y) h rfl rfl rfl hu hq).go ?_
        rintro _ M3 ⟨_, h3, k3⟩
        array_get_dec
        refine ⟨?_, k3⟩
        simp only [downS, hx]
        exact h3
  | plain =>
    refine ki_of (c := false) (by ac_nf0) ?_
    array_get_dec
    refine wp_inLn hl1 ?_
    array_get_dec
    rw [Bool.false_xor]
    cases hx : isIn q.2 x with
    | true =>
      have hi := idx_lt hx
      array_get_dec
      refine wp_or1 ?_
      array_get_dec
      refine wp_indexLn hl1 hx ?_
      array_get_dec
      refine (sp_touch (i := 1) (t := u) (p := q) (j := idx q.2 x) h rfl rfl hu hq (by rw [← hq.2]; exact hi)).go ?_
      rintro _ M3 ⟨h3, k3⟩
      array_get_dec
      refine ⟨?_, k3⟩
      simp only [downS, hx, if_true]
      exact h3
    | false =>
      array_get_dec
      refine (sp_fill (i := 1) (t := u) (p := q) (l := l1) (x := x) h rfl rfl rfl hu hq).go ?_
      rintro _ M3 ⟨rfl, h3, k3⟩
      have hb3 := h3.hb
      array_get_dec
      refine ki_of (c := false) (by ac_nf0) ?_
      array_get_dec
      refine ⟨?_, k3⟩
      simp only [downS, hx]
      exact h3
  | incl =>
    refine ki_of (c := false) (by ac_nf0) ?_
    array_get_dec
    refine wp_inLn hl1 ?_
    array_get_dec
    rw [Bool.false_xor]
    cases hx : isIn q.2 x with
    | true =>
      have hi := idx_lt hx
      array_get_dec
      refine wp_or1 ?_
      array_get_dec
      refine wp_indexLn hl1 hx ?_
      array_get_dec
      refine (sp_touch (i := 1) (t := u) (p := q) (j := idx q.2 x) h rfl rfl hu hq (by rw [← hq.2]; exact hi)).go ?_
      rintro _ M3 ⟨h3, k3⟩
      array_get_dec
      refine ⟨?_, k3⟩
      simp only [downS, hx, if_true]
      exact h3
    | false =>
      array_get_dec
      refine (sp_fill (i := 1) (t := u) (p := q) (l := l1) (x := x) h rfl rfl rfl hu hq).go ?_
      rintro _ M3 ⟨rfl, h3, k3⟩
      have hb3 := h3.hb
      have hl3 := h3.hl 0 l0 p rfl rfl
      array_get_dec
      refine ki_of (c := true) (by ac_nf0) ?_
      array_get_dec
      cases hg : goneS u q with
      | none =>
        refine wp_ev (a := .bl false) rfl ?_
        array_get_dec
        refine ⟨?_, k3⟩
        simp only [downS, hx, hg]
        exact h3
      | some y =>
        refine wp_ev (a := .bl true) rfl ?_
        array_get_dec
        refine wp_inLn hl3 ?_
        rw [Bool.false_xor]
        cases hy : isIn p.2 y with
        | false =>
          array_get_dec
          refine ⟨?_, k3⟩
          simp only [downS, hx, hg, hy]
          exact h3
        | true =>
          have hi := idx_lt hy
          array_get_dec
          refine wp_or1 ?_
          array_get_dec
          refine wp_indexLn hl3 hy ?_
          array_get_dec
          refine k_setN hl3 (by simpa [linesD] using hi) ?_
          rw [show Dv.non = lnD none from rfl, lines_set]
          array_get_dec
          refine ⟨?_, k3.tr (.set fun _ => .inr (by simp))⟩
          simp only [downS, hx, hg, hy, if_true]
          exact h3.putL (i := 0) (p := p) rfl rfl
end
end L77

/-! text A7_77 -/
namespace L77
open PySem L2 PySem.Spec PyProof.Rows Zl
/-- a box of a device, wherever it stands -/
structure BoxIs (D : Dev) (b s r : Nat) (ls : List Nat) (st : List St1) (M : Mem) : Prop where
  at_ : BoxAt D b s r ls st M
  len : ls.length = st.length
  ok : OkSt D st
section
variable {D : Dev} {b s r : Nat} {ls : List Nat} {st : List St1} {M : Mem} {x : Str}
theorem BoxIs.le2 (h : BoxIs D b s r ls st M) : ls.length ≤ 2 := by
  rw [h.len, h.ok.len]
  cases D <;> simp [Dev.tabs]
theorem BoxIs.kpN {M' : Mem} (h : BoxIs D b s r ls st M) (k : Kp NoW M M') : BoxIs D b s r ls st M' := ⟨h.at_.kpN k, h.len, h.ok⟩
theorem BoxIs.lt (h : BoxIs D b s r ls st M) : b < M.length ∧ s < M.length ∧ r < M.length ∧ ∀ l ∈ ls, l < M.length := by
  refine ⟨lt_of h.at_.hb, lt_of h.at_.hs, lt_of h.at_.hr, fun l hl => ?_⟩
  obtain ⟨i, hi⟩ := List.getElem?_of_mem hl
  have hi2 : i < st.length := by rw [← h.len]; exact (List.getElem?_eq_some_iff.mp hi).1
  exact lt_of (h.at_.hl i l _ hi (List.getElem?_eq_getElem hi2))
theorem sp_ask (hD : OkV D) (h : BoxIs D b s r ls st M) :
    Wp (m_Box_ask [.loc b, .str x] M) fun d M' => d = .bl (heldS st x) ∧ BoxIs D b s r ls (askS D st x) M' ∧ Kp (BW s ls) M M' := by
  obtain ⟨h0, hlen, hok⟩ := h
  have h2 : ls.length ≤ 2 := BoxIs.le2 ⟨h0, hlen, hok⟩
  have hb := h0.hb
  refine wp_fn rfl [some (.loc b), some (.str x), none, none] rfl ?_
  unfold b_Box_ask
  array_get_dec
  refine (sp_holds h0 hlen h2).go ?_
  rintro _ M1 ⟨rfl, k1⟩
  have h1 := h0.kpN k1
  have hb1 := h1.hb
  cases D with
  | one t =>
    have ht : OkT t := hD t (by simp [Dev.tabs])
    match st, ls, hlen, hok, h1 with
    | [p], [l0], _, .cons hp .nil, h1 =>
    have hr1 : M1[r]? = some (.lst [.loc l0]) := h1.hr
    have hl1 := h1.hl 0 l0 p rfl rfl
    array_get_dec
    refine wp_inLn hl1 ?_
    array_get_dec
    rw [Bool.false_xor]
    cases hx : isIn p.2 x with
    | true =>
      have hi := idx_lt hx
      array_get_dec
      refine wp_or1 ?_
      array_get_dec
      refine wp_indexLn hl1 hx ?_
      array_get_dec
      refine (sp_touch (i := 0) (t := t) (p := p) (j := idx p.2 x) h1 rfl rfl ht hp (by rw [← hp.2]; exact hi)).go ?_
      rintro _ M3 ⟨h3, k3⟩
      array_get_dec
      refine ⟨rfl, ⟨?_, ?_, ?_⟩, (Kp.refl.trN k1).tr k3⟩
      · simp only [askS, hx, if_true]; exact h3
      · simp only [askS, hx, if_true]; rfl
      · exact ask_ok hD (.cons hp .nil) x
    | false =>
      array_get_dec
      refine (sp_fill (i := 0) (t := t) (p := p) (l := l0) (x := x) h1 rfl rfl rfl ht hp).go ?_
      rintro _ M3 ⟨rfl, h3, k3⟩
      have hb3 := h3.hb
      have hr3 : M3[r]? = some (.lst [.loc l0]) := h3.hr
      array_get_dec
      refine ki_of (c := false) (by ac_nf0) ?_
      array_get_dec
      refine ⟨rfl, ⟨?_, ?_, ?_⟩, (Kp.refl.trN k1).tr k3⟩
      · simp only [askS, hx]; exact h3
      · simp only [askS, hx]; rfl
      · exact ask_ok hD (.cons hp .nil) x
  | two m t u =>
    have ht : OkT t := hD t (by simp [Dev.tabs])
    have hu : OkT u := hD u (by simp [Dev.tabs])
    match st, ls, hlen, hok, h1 with
    | [p, q], [l0, l1], _, .cons hp (.cons hq .nil), h1 =>
    have hr1 : M1[r]? = some (.lst [.loc l0, .loc l1]) := h1.hr
    have hl1 := h1.hl 0 l0 p rfl rfl
    array_get_dec
    refine wp_inLn hl1 ?_
    array_get_dec
    rw [Bool.false_xor]
    cases hx : isIn p.2 x with
    | true =>
      have hi := idx_lt hx
      array_get_dec
      refine wp_or1 ?_
      array_get_dec
      refine wp_indexLn hl1 hx ?_
      array_get_dec
      refine (sp_touch (i := 0) (t := t) (p := p) (j := idx p.2 x) h1 rfl rfl ht hp (by rw [← hp.2]; exact hi)).go ?_
      rintro _ M3 ⟨h3, k3⟩
      array_get_dec
      refine ⟨rfl, ⟨?_, ?_, ?_⟩, (Kp.refl.trN k1).tr k3⟩
      · simp only [askS, hx, if_true]; exact h3
      · simp only [askS, hx, if_true]; rfl
      · exact ask_ok hD (.cons hp (.cons hq .nil)) x
    | false =>
      array_get_dec
      refine (sp_fill (i := 0) (t := t) (p := p) (l := l0) (x := x) h1 rfl rfl rfl ht hp).go ?_
      rintro _ M3 ⟨rfl, h3, k3⟩
      have hb3 := h3.hb
      have hr3 : M3[r]? = some (.lst [.loc l0, .loc l1]) := h3.hr
      array_get_dec
      refine ki_of (c := true) (by ac_nf0) ?_
      array_get_dec
      refine (sp_down (x := x) (g := goneS t p) (p := fillS t p x) (q := q) h3 ht hu (fill_ok ht hp) hq).go ?_
      rintro _ M4 ⟨h4, k4⟩
      array_get_dec
      refine ⟨rfl, ⟨?_, ?_, ?_⟩, ((Kp.refl.trN k1).tr k3).tr k4⟩
      · simp only [askS, hx]; exact h4
      · simp only [askS, hx]
        have := (down_ok (m := m) (x := x) (g := goneS t p) hu (fill_ok ht hp (x := x)) hq).len
        simpa using this.symm
      · exact ask_ok hD (.cons hp (.cons hq .nil)) x
theorem sp_init (hb : M[b]? = some (.ins 0 [])) (hD : OkV D) :
    Wp (m_Box_init [.loc b, devD D] M) (kNon fun M' => (∃ s r ls, BoxIs D b s r ls (startS D) M' ∧ M.length ≤ s ∧ M.length ≤ r ∧ ∀ l ∈ ls, M.length ≤ l) ∧ Kp (At b) M M') := by
  have hbl := lt_of hb
  have hcut : Zl.cutD (Dv.str D.mode :: D.tabs.map tabD) (some 1) none = D.tabs.map tabD := by
    unfold Zl.cutD
    simp [HT.sIx]
    exact List.take_of_length_le (by simp)
  have tl : D.tabs.length ≤ 2 := by cases D <;> simp [Dev.tabs]
  have stg : ∀ ts : List Tb, (List.replicate ts.length [Dv.int 0]).flatten = stagesD (ts.map startP) := by
    intro ts
    induction ts with
    | nil => rfl
    | cons t ts ih => rw [List.length_cons, List.replicate_succ, List.flatten_cons, ih]; rfl
  refine wp_fn rfl [some (.loc b), some (.tup (.str D.mode :: D.tabs.map tabD)), none] rfl ?_
  unfold b_Box_init
  array_get_dec
  refine wp_ixT (atI_n (j := 0) rfl) ?_
  array_get_dec
  rename_i M1 b1 k1 l1 M2 b2 k2 l2 n3 M3 e3 g3 k3 l3
  rw [hcut] at b2 ⊢
  refine wq_mulL g3 (by decide) (by simp; omega) ?_
  array_get_dec
  rename_i n4 M4 e4 g4 k4 l4 M5 b5 k5' l5'
  rw [show (List.map tabD D.tabs).length = D.tabs.length by simp, stg] at g4
  have g5 : M5[n4]? = some (.lst (stagesD (D.tabs.map startP))) := by bv_omega
  have k5 : Kp (At b) M M5 := by array_mem_dec
  have l5 : M5.length = n4 + 1 := by omega
  refine wp_lcI (fun c i acc M' => M'[c]? = some (.lst acc) ∧ c = n4 + 1 ∧ ∃ ls : List Nat, acc = ls.map Dv.loc ∧ ls.length = i ∧ (∀ (j l : Nat), ls[j]? = some l → ∃ t, D.tabs[j]? = some t ∧ M'[l]? = some (.lst (linesD (startP t).2))) ∧ ls.Nodup ∧ (∀ l ∈ ls, c < l) ∧ Kp NoW M5 M') ?_
  array_get_dec
  refine ⟨fun i acc M' hh => hh.1, ⟨at_new, by omega, [], rfl, rfl, fun j l h => by simp at h, List.nodup_nil, fun l h => by simp at h, .app _⟩, ?_, ?_⟩
  · rintro i acc M' hi ⟨c1, c2, ls, rfl, c3, c4, c5, c6, c7⟩
    have hi' : i < D.tabs.length := by simpa using hi
    have hz : (D.tabs.map tabD)[i]? = some (tabD D.tabs[i]) := by simp [hi']
    have hT := hD _ (List.getElem_mem hi')
    have t4 := hT.l4
    refine ⟨tabD D.tabs[i], by show some _ = _; rw [hz], ?_⟩
    unfold tabD
    array_get_dec
    refine wq_mulL (by bv_omega) (by decide) (by omega) ?_
    array_get_dec
    rename_i n6 M6 e6 g6 k6 l6 n7 M7 e7 g7 k7 l7
    rw [rep_non] at g7
    have z := lt_of c1
    have cc : M7[M5.length]? = some (.lst (ls.map Dv.loc)) := by bv_omega
    have ol : ∀ l ∈ ls, l < M'.length := fun l hl => by
      obtain ⟨j, hj⟩ := List.getElem?_of_mem hl
      obtain ⟨t, _, h2⟩ := c4 j l hj
      exact lt_of h2
    refine ⟨_, cc, size_lt (by simp; omega), at_set cc, c2, ls ++ [n7], by simp, by simp [c3], ?_, ?_, ?_, by array_mem_dec⟩
    · intro j l hj
      by_cases e : j < ls.length
      · rw [List.getElem?_append_left e] at hj
        obtain ⟨t, h1, h2⟩ := c4 j l hj
        have := c6 l (List.mem_of_getElem? hj)
        exact ⟨t, h1, at_set_ne (k7.at (k6.at h2 id) id) (by omega)⟩
      · have ej : j = ls.length := by
          have := (List.getElem?_eq_some_iff.mp hj).1
          simp at this; omega
        subst ej
        rw [List.getElem?_append_right (Nat.le_refl _)] at hj
        simp at hj
        subst hj
        exact ⟨D.tabs[i], by rw [c3]; exact List.getElem?_eq_getElem hi', at_set_ne g7 (by omega)⟩
    · rw [List.nodup_append]
      refine ⟨c5, by simp, fun a ha b hb e => ?_⟩
      have := ol a ha
      have : b = n7 := by simpa using hb
      omega
    · intro l hl
      rcases List.mem_append.mp hl with hl | hl
      · exact c6 l hl
      · have : l = n7 := by simpa using hl
        omega
  · rintro acc M' ⟨c1, c2, ls, rfl, c3, c4, c5, c6, c7⟩
    have c3' : ls.length = D.tabs.length := by rw [c3]; simp
    refine ⟨by show some _ = _; simp, ?_⟩
    have q1 := c7.at b5 id
    have q2 := c7.at g5 id
    array_get_dec
    rename_i M6 b6 k6 l6
    have hlb : ∀ l ∈ ls, b ≠ l := fun l hl => by have := c6 l hl; omega
    refine ⟨⟨n4, M5.length, ls, ⟨⟨b6, by bv_omega, by bv_omega, fun i l p h1 h2 => ?_, c5, by omega, by omega, by omega, fun e => hlb b e rfl, fun e => ?_, fun e => ?_⟩, ?_, start_ok hD⟩, by omega, by omega, fun l hl => ?_⟩, by array_mem_dec⟩
    · obtain ⟨t, h3, h4⟩ := c4 i l h1
      have e : p = startP t := by
        unfold startS at h2
        rw [List.getElem?_map, h3] at h2
        simpa using h2.symm
      rw [e]
      have := hlb l (List.mem_of_getElem? h1)
      bv_omega
    · have := c6 _ e; omega
    · have := c6 _ e; omega
    · simp [startS, c3']
    · have := c6 l hl; omega
/-- the answers of a device -/
def blsOf (bs : List Bool) : List Dv := bs.map .bl
def missB (bs : List Bool) : Nat := bs.countP fun b => !b
theorem flat_bls (bs : List Bool) : (blsOf bs).all flatD = true := by simp [blsOf, flatD]
theorem count_bls : ∀ bs : List Bool, (blsOf bs).countP (fun y => eqF y (.bl false)) = missB bs
  | [] => rfl
  | b :: bs => by
    have := count_bls bs
    unfold blsOf missB at this ⊢
    rw [List.map_cons, List.countP_cons, List.countP_cons, this]
    cases b <;> rfl
theorem wp_count {bs : List Bool} {M : Mem} {q : QE} (k : q (.int (missB bs : Nat)) M) : Wp (tcountD (.tup (blsOf bs)) [.bl false] M) q := by
  refine wp_ev ?_ k
  unfold tcountD
  simp only [flat_bls, flatD, Bool.and_self, if_true, count_bls]
end
end L77

/-! text N1_77 -/
namespace L77
open PySem L2 PySem.Spec PyProof.Rows Zl
section
variable {D : Dev} {b s r : Nat} {ls : List Nat} {st : List St1} {M : Mem} {x : Str}
theorem sp_answers {ns : List Str} (hD : OkV D) (hn : ns.length ≤ 2000) (hok : ∀ x ∈ ns, okName x = true) :
    Wp (m_answers [devD D, .tup (strsD ns)] M) fun d M' => d = .tup (blsOf (runS D (startS D) ns)) ∧ Kp NoW M M' := by
  have hl : (strsD ns).length = ns.length := by simp [strsD]
  refine wp_fn rfl [some (devD D), some (.tup (strsD ns)), none, none] rfl ?_
  unfold b_answers
  array_get_dec
  refine (sp_checkDevice hD).go fun _ M1 k1 => ?_
  array_get_dec
  refine (sp_history hn hok).go fun _ M2 k2 => ?_
  array_get_dec
  rename_i n3 M3 e3 g3 k3 l3
  refine (sp_init g3 hD).go ?_
  rintro _ M4 ⟨rfl, ⟨s, r, ls, bx, q1, q2, q3⟩, k4⟩
  have k0 : Kp NoW M M4 := by array_mem_dec
  refine ⟨rfl, ?_⟩
  array_get_dec
  refine wp_lcI (fun c i acc M' => M'[c]? = some (.lst acc) ∧ acc = blsOf (runS D (startS D) (ns.take i)) ∧ BoxIs D n3 s r ls (endS D (startS D) (ns.take i)) M' ∧ Kp NoW M M' ∧ c = M4.length) ?_
  array_get_dec
  have z := bx.lt
  refine ⟨fun i acc M' hh => hh.1, ⟨at_new, rfl, bx.kpN (.app _), by array_mem_dec, rfl⟩, ?_, ?_⟩
  · rintro i acc M' hi ⟨c1, c2, c3, c4, c5⟩
    have hi' : i < (strsD ns).length := hi
    have hi2 : i < ns.length := by omega
    have etk : ns.take (i + 1) = ns.take i ++ [ns[i]] := by rw [List.take_add_one, List.getElem?_eq_getElem hi2]; rfl
    refine ⟨.str ns[i], by show some (strsD ns)[i]? = _; simp [strsD, hi2], ?_⟩
    have hb := c3.at_.hb
    array_get_dec
    refine (sp_ask hD c3).go ?_
    rintro _ M5 ⟨rfl, b5, k5⟩
    have cc := k5.at c1 (by
      rintro (e | e)
      · have := z.2.1; omega
      · have := z.2.2.2 _ e; omega)
    refine ⟨acc, cc, ?_, at_set cc, ?_, ?_, ?_, c5⟩
    · rw [c2, blsOf, List.length_map, runS_len, List.length_take]; exact size_lt (by omega)
    · rw [etk, runS_snoc, c2]; unfold blsOf; rw [List.map_append]; rfl
    · rw [etk, endS_snoc]
      refine ⟨b5.at_.kp (Kp.set (W := At M4.length) fun _ => rfl) ?_ ?_ ?_ ?_, b5.len, b5.ok⟩
      · have := z.1; simp only [At]; omega
      · have := z.2.1; simp only [At]; omega
      · have := z.2.2.1; simp only [At]; omega
      · intro l hl; have := z.2.2.2 l hl; simp only [At]; omega
    · refine (c4.trans k5 ?_).trans (Kp.set (W := At M4.length) fun _ => rfl) ?_
      · rintro n hn (e | e)
        · have := k1.1; have := k2.1; omega
        · have := q3 _ e; have := k1.1; have := k2.1; omega
      · intro n hn e
        have : n = M4.length := e
        have := k0.1; omega
  · rintro acc M' ⟨c1, c2, c3, c4, c5⟩
    have e1 : ns.take (strsD ns).length = ns := by rw [hl, List.take_length]
    refine ⟨by show some (strsD ns)[(strsD ns).length]? = _; simp, ?_⟩
    array_get_dec
    refine ⟨?_, c4⟩
    rw [c2]
    show Dv.tup (blsOf (runS D (startS D) (ns.take (strsD ns).length))) = _
    rw [e1]
theorem sp_misses {ns : List Str} (hD : OkV D) (hn : ns.length ≤ 2000) (hok : ∀ x ∈ ns, okName x = true) :
    Wp (m_count_misses [devD D, .tup (strsD ns)] M) fun d M' => d = .int (missB (runS D (startS D) ns) : Nat) ∧ Kp NoW M M' := by
  refine wp_fn rfl [some (devD D), some (.tup (strsD ns))] rfl ?_
  unfold b_count_misses
  array_get_dec
  refine wp_or1 ?_
  array_get_dec
  refine (sp_answers hD hn hok).go ?_
  rintro _ M1 ⟨rfl, k1⟩
  array_get_dec
  refine wp_count ?_
  array_get_dec
  exact ⟨rfl, k1⟩
end
end L77

/-! text C4_77 -/
namespace L77
open PySem L2 PySem.Spec PyProof.Rows Zl
/-- a drawn device -/
theorem sp_deviceL {p mo sn : Nat} {M : Mem} (h : Pool p M) (m1 : 1 ≤ mo) (m4 : mo ≤ 4) (s1 : 1 ≤ sn) (s9 : sn ≤ 60) : Wp (m__law_device [.loc p, .int (mo : Nat), .int (sn : Nat)] M) fun d M' => (∃ D, d = devD D ∧ OkV D ∧ ∀ t ∈ D.tabs, t.l ≤ mo) ∧ Pool p M' ∧ Kp (At p) M M' := by
  have hp := h.lt
  refine wp_fn rfl [some (.loc p), some (.int (mo : Nat)), some (.int (sn : Nat)), none, none, none, none, none, none] rfl ?_
  unfold b__law_device
  array_get_dec
  refine (sp_draw h (by decide) (by decide)).go ?_
  rintro _ M1 ⟨⟨r1, rfl, f1⟩, p1, k1⟩
  array_get_dec
  rename_i n2 M2 e2 g2 k2 l2
  refine wq_for (fun i env M' => ∃ (x5 x6 x7 x8 : Option Dv) (ts : List Tb), env = [some (.loc p), some (.int (mo : Nat)), some (.int (sn : Nat)), some (.int (r1 : Nat)), some (.loc n2), x5, x6, x7, x8] ∧ ts.length = i ∧ M'[n2]? = some (.lst (ts.map tabD)) ∧ (∀ t ∈ ts, OkT t ∧ t.l ≤ mo) ∧ Pool p M' ∧ Kp (At p) M M') ?_
  array_get_dec
  refine k_forR (n := 2) ⟨none, none, none, none, [], rfl, rfl, g2, fun r hr => by simp at hr, p1.kp k2, by array_mem_dec⟩ ?_ ?_
  · rintro i env M3 hi ⟨x5, x6, x7, x8, ts, rfl, h1, h2, h3, h4, h5⟩
    array_get_dec
    refine (sp_draw h4 (by omega) (by omega)).go ?_
    rintro _ M4 ⟨⟨r4, rfl, f4⟩, p4, k4⟩
    array_get_dec
    rw [show (1 : Int) + (r4 : Nat) = ((1 + r4 : Nat) : Int) by omega]
    refine (sp_recent (l := 1 + r4) (by omega) (by omega)).go ?_
    rintro _ M5 ⟨rfl, k5⟩
    array_get_dec
    refine (sp_queue (l := 1 + r4) (by omega) (by omega)).go ?_
    rintro _ M6 ⟨rfl, k6⟩
    array_get_dec
    rename_i n7 M7 e7 g7 k7 l7
    refine (sp_draw ((((p4.kp k5).kp k6).kp k7)) (by omega) (by omega)).go ?_
    rintro _ M8 ⟨⟨r8, rfl, f8⟩, p8, k8⟩
    refine wp_addI ?_
    rw [show (1 : Int) + (r8 : Nat) = ((1 + r8 : Nat) : Int) by omega]
    array_get_dec
    refine (sp_policyL (l := 1 + r4) (s := 1 + r8) p8 (by omega) (by omega) (by omega) (by omega)).go ?_
    rintro _ M9 ⟨⟨t, rfl, ht, htl, _⟩, p9, k9⟩
    array_get_dec
    refine wq_mulL (k := 4) (by bv_omega) (by simp) (by decide) ?_
    array_get_dec
    rename_i na Ma ea ga ka la nb Mb eb gb kb lb nc Mc ec gc kc lc
    have pl := h4.lt
    refine (sp_draw (((p9.kp ka).kp kb).kp kc) (by decide) (by decide)).go ?_
    rintro _ Md ⟨⟨r, rfl, fr⟩, pd, kd⟩
    have gd : Md[nc]? = some (.lst ([tabD (recT (1 + r4)), tabD (queueT (1 + r4))] ++ (List.replicate 4 [tabD t]).flatten)) := by bv_omega
    have pick : ∃ t', (OkT t' ∧ t'.l ≤ mo) ∧ atI ([tabD (recT (1 + r4)), tabD (queueT (1 + r4))] ++ (List.replicate 4 [tabD t]).flatten) (r : Nat) = some (tabD t') := by
      match r, fr with
      | 0, _ => exact ⟨_, ⟨rec_ok (by omega) (by omega), by show 1 + r4 ≤ mo; omega⟩, rfl⟩
      | 1, _ => exact ⟨_, ⟨queue_ok (by omega) (by omega), by show 1 + r4 ≤ mo; omega⟩, rfl⟩
      | 2, _ => exact ⟨_, ⟨ht, by omega⟩, rfl⟩
      | 3, _ => exact ⟨_, ⟨ht, by omega⟩, rfl⟩
      | 4, _ => exact ⟨_, ⟨ht, by omega⟩, rfl⟩
      | 5, _ => exact ⟨_, ⟨ht, by omega⟩, rfl⟩
      | n + 6, h => omega
    obtain ⟨t', ht', et⟩ := pick
    refine wp_ixL gd et ?_
    array_get_dec
    refine wq_append (by bv_omega) (size_lt (by simp; omega)) ?_
    array_get_dec
    rename_i Me ge ke le
    refine ⟨_, _, _, _, ts ++ [t'], rfl, by simp [h1], by rw [ge, List.map_append]; rfl, fun z hz => ?_, ?_, by array_mem_dec⟩
    · rcases List.mem_append.mp hz with hz | hz
      · exact h3 z hz
      · have : z = t' := by simpa using hz
        rw [this]; exact ht'
    · obtain ⟨a, b, c, hh⟩ := pd
      exact ⟨a, b, c, ke.at hh (by omega)⟩
  · rintro env M3 ⟨x5, x6, x7, x8, ts, rfl, h1, h2, h3, h4, h5⟩
    match ts, h1 with
    | [t, u], _ =>
    have h2 : M3[n2]? = some (.lst [tabD t, tabD u]) := h2
    have ht := h3 t (by simp)
    have hu := h3 u (by simp)
    array_get_dec
    by_cases hw : ((r1 : Nat) : Int) < 3
    · refine ki_of (c := true) (decide_eq_true hw) ?_
      array_get_dec
      exact ⟨⟨.one t, rfl, fun z hz => by simp [Dev.tabs] at hz; rw [hz]; exact ht.1, fun z hz => by simp [Dev.tabs] at hz; rw [hz]; exact ht.2⟩, h4, h5⟩
    · refine ki_of (c := false) (decide_eq_false hw) ?_
      have go : ∀ m : Mode, OkV (.two m t u) ∧ ∀ z ∈ (Dev.two m t u).tabs, z.l ≤ mo := fun m => ⟨fun z hz => (h3 z (by simpa [Dev.tabs] using hz)).1, fun z hz => (h3 z (by simpa [Dev.tabs] using hz)).2⟩
      match r1, f1, hw with
      | 0, _, hw => omega
      | 1, _, hw => omega
      | 2, _, hw => omega
      | 3, _, _ =>
        array_get_dec
        exact ⟨⟨.two .plain t u, rfl, go _⟩, by
          obtain ⟨a, b, c, hh⟩ := h4
          exact ⟨a, b, c, by bv_omega⟩, by array_mem_dec⟩
      | 4, _, _ =>
        array_get_dec
        exact ⟨⟨.two .incl t u, rfl, go _⟩, by
          obtain ⟨a, b, c, hh⟩ := h4
          exact ⟨a, b, c, by bv_omega⟩, by array_mem_dec⟩
      | 5, _, _ =>
        array_get_dec
        exact ⟨⟨.two .vict t u, rfl, go _⟩, by
          obtain ⟨a, b, c, hh⟩ := h4
          exact ⟨a, b, c, by bv_omega⟩, by array_mem_dec⟩
      | n + 6, h, _ => omega
theorem sp_device {p mo sn : Nat} {M : Mem} (h : Pool p M) (m1 : 1 ≤ mo) (m4 : mo ≤ 4) (s1 : 1 ≤ sn) (s9 : sn ≤ 60) : Wp (m__law_device [.loc p, .int (mo : Nat), .int (sn : Nat)] M) fun d M' => (∃ D, d = devD D ∧ OkV D) ∧ Pool p M' ∧ Kp (At p) M M' :=
  (sp_deviceL h m1 m4 s1 s9).go fun d M' ⟨⟨D, e, ok, _⟩, b, c⟩ => ⟨⟨D, e, ok⟩, b, c⟩
end L77

/-! text K1_77 -/
namespace L77
open PySem L2 PySem.Spec PyProof.Rows Zl
/-! ## next_requests -/
/-- the first request for x from a on -/
def fstF (ns : List Str) (a : Nat) (x : Str) : Option Nat := (List.range ns.length).find? fun j => decide (a ≤ j) && decide (ns[j]? = some x)
def nxt (ns : List Str) (t : Nat) : Option Nat := match ns[t]? with
  | some x => fstF ns (t + 1) x
  | none => none
def optD : Option Nat → Dv
  | some j => .int (j : Nat)
  | none => .non
def nxD (ns : List Str) : List Dv := (List.range ns.length).map fun t => optD (nxt ns t)
theorem find_and {α : Type} {p q : α → Bool} : ∀ {xs : List α}, (∀ x ∈ xs, p x = q x) → xs.find? p = xs.find? q
  | [], _ => rfl
  | x :: xs, h => by
    rw [List.find?_cons, List.find?_cons, h x (List.mem_cons_self ..), find_and fun y hy => h y (List.mem_cons_of_mem _ hy)]
theorem range_find {p : Nat → Bool} {t n : Nat} (ht : t < n) (h : ∀ j, j < t → p j = false) (hp : p t = true) : (List.range n).find? p = some t := by
  rw [List.find?_range_eq_some]
  exact ⟨hp, by simpa using ht, fun j hj => by rw [h j hj]; rfl⟩
theorem fst_hit {ns : List Str} {t : Nat} {x : Str} (h : ns[t]? = some x) : fstF ns t x = some t := by
  have ht := (List.getElem?_eq_some_iff.mp h).1
  refine range_find ht (fun j hj => ?_) ?_
  · rw [decide_eq_false (by omega)]; rfl
  · simp [h]
theorem fst_miss {ns : List Str} {t : Nat} {x : Str} (h : ns[t]? ≠ some x) : fstF ns t x = fstF ns (t + 1) x := by
  refine find_and fun j hj => ?_
  by_cases e : t = j
  · subst e
    rw [decide_eq_false h, Bool.and_false, Bool.and_false]
  · congr 1
    exact decide_eq_decide.mpr (by omega)
theorem fst_end {ns : List Str} {a : Nat} {x : Str} (h : ns.length ≤ a) : fstF ns a x = none := by
  unfold fstF
  rw [List.find?_eq_none]
  intro j hj
  have := List.mem_range.mp hj
  rw [decide_eq_false (by omega)]; simp
end L77

/-! text K2_77 -/
namespace L77
open PySem L2 PySem.Spec PyProof.Rows Zl
def nxF (ns : List Str) (a : Nat) : List Dv := (List.range ns.length).map fun t => if a ≤ t then optD (nxt ns t) else .non
theorem nxF_top {ns : List Str} : nxF ns ns.length = (List.replicate ns.length [Dv.non]).flatten := by
  have h : ∀ n, (List.replicate n [Dv.non]).flatten = List.replicate n Dv.non := by
    intro n
    induction n with
    | zero => rfl
    | succ n ih => rw [List.replicate_succ, List.flatten_cons, ih]; rfl
  rw [h]
  apply List.ext_getElem
  · simp [nxF]
  · intro i h1 h2
    have : i < ns.length := by simpa [nxF] using h1
    simp [nxF]
    intro hh; omega
theorem nxF_zero {ns : List Str} : nxF ns 0 = nxD ns := by
  unfold nxF nxD
  simp
theorem nxF_set {ns : List Str} {t : Nat} (h : t < ns.length) : (nxF ns (t + 1)).set t (optD (nxt ns t)) = nxF ns t := by
  apply List.ext_getElem
  · simp [nxF]
  · intro i h1 h2
    have hi : i < ns.length := by simpa [nxF] using h2
    rw [List.getElem_set]
    by_cases e : t = i
    · subst e; simp [nxF]
    · rw [if_neg e]
      simp only [nxF, List.getElem_map, List.getElem_range]
      by_cases z : t ≤ i
      · rw [if_pos z, if_pos (by omega)]
      · rw [if_neg z, if_neg (by omega)]
theorem sp_nexts {ns : List Str} {M : Mem} (hn : ns.length ≤ 200) : Wp (m_next_requests [.tup (strsD ns)] M) fun d M' => ∃ m, d = .loc m ∧ M.length ≤ m ∧ M'[m]? = some (.lst (nxD ns)) ∧ Kp NoW M M' := by
  have hl : (strsD ns).length = ns.length := by simp [strsD]
  refine wp_fn rfl [some (.tup (strsD ns)), none, none, none] rfl ?_
  unfold b_next_requests
  array_get_dec
  rename_i n1 M1 e1 g1 k1 l1
  refine wq_mulL (k := (strsD ns).length) g1 (by simp) (by omega) ?_
  array_get_dec
  rename_i n2 M2 e2 g2 k2 l2 n3 M3 e3 g3 k3 l3
  refine wq_for (fun i env M' => ∃ (x : Option Dv) (kvs : List (Key × Dv)), env = [some (.tup (strsD ns)), some (.loc n2), some (.loc n3), x] ∧ M'[n2]? = some (.lst (nxF ns (ns.length - i))) ∧ M'[n3]? = some (.dct kvs) ∧ kvs.length ≤ i ∧ (∀ y, valD kvs (.inr y) = (fstF ns (ns.length - i) y).map fun j => .int (j : Nat)) ∧ Kp NoW M M') ?_
  refine wq_rng3 ?_
  array_get_dec
  refine wp_ev (a := .int (-1)) (M' := M3) rfl ?_
  array_get_dec
  refine wp_ev (a := .int (-1)) (M' := M3) rfl ?_
  rw [hl]
  refine ⟨(ns.length : Int) - 1, -1, rfl, rfl, rfl, by omega, by omega, by decide, by decide, ?_⟩
  refine k_forD ?_ ?_ ?_
  · refine ⟨none, [], rfl, ?_, g3, Nat.le_refl _, ?_, by array_mem_dec⟩
    · rw [Nat.sub_zero, nxF_top, ← hl]; exact k3.at g2 id
    · intro y
      rw [Nat.sub_zero, fst_end (Nat.le_refl _)]; rfl
  · rintro i t env M4 hi ⟨x, kvs, rfl, c1, c2, c3, c4, c5⟩
    have ht : t < ns.length := by omega
    have ea : (strsD ns)[t]? = some (.str ns[t]) := by simp [strsD, ht]
    have e0 : ns.length - i = t + 1 := by omega
    have e00 : ns.length - (i + 1) = t := by omega
    rw [e0] at c1 c4
    array_get_dec
    refine wq_dget ?_
    array_get_dec
    refine ⟨n3, kvs, rfl, c2, ?_⟩
    array_get_dec
    refine ⟨kvs, .inr ns[t], c2, rfl, ?_⟩
    array_get_dec
    refine k_setNO c1 (by simp [nxF, ht]) ?_
    array_get_dec
    rename_i M5 g5 k5 l5
    have d5 := k5.at c2 (by omega)
    have hz : (200 : Nat) < sizeLine := by decide
    have hz2 : kvs.length < sizeLine := by omega
    refine k_setDk (k := .inr ns[t]) d5 rfl hz2 ?_
    array_get_dec
    rename_i M6 g6 k6 l6
    refine ⟨_, _, rfl, ?_, g6, ?_, ?_, by array_mem_dec⟩
    · have g7 := k6.at g5 (by omega)
      rw [e00, ← nxF_set ht, g7, c4, nxt, List.getElem?_eq_getElem ht]
      simp only
      cases fstF ns (t + 1) ns[t] <;> rfl
    · have := putDk_len (kvs := kvs) (k := .inr ns[t]) (v := .int (t : Nat))
      omega
    · intro y
      rw [valD_put, e00]
      by_cases e : ns[t] = y
      · rw [if_pos (by rw [e]), fst_hit (by rw [List.getElem?_eq_getElem ht, e])]; rfl
      · rw [if_neg (fun z => e (Sum.inr.inj z)), fst_miss (by rw [List.getElem?_eq_getElem ht]; exact fun z => e (Option.some.inj z)), c4]
  · rintro env M4 ⟨x, kvs, rfl, c1, c2, c3, c4, c5⟩
    array_get_dec
    rw [Nat.sub_self, nxF_zero] at c1
    exact ⟨n2, rfl, by have := k1.1; omega, c1, c5⟩
end L77

/-! text K3_77 -/
namespace L77
open PySem L2 PySem.Spec PyProof.Rows Zl
/-! ## is_keeping -/
def liveB (ns : List Str) (t s : Nat) : Bool := match nxt ns s with
  | some j => decide (t < j)
  | none => false
def keepF (ns : List Str) (l : Nat) : List Bool → Nat → List Nat → Bool
  | [], _, _ => true
  | b :: bs, t, act =>
    let a := act.filter (liveB ns t)
    if l ≤ a.length ∨ (b = true ∧ nxt ns t = none) then false else keepF ns l bs (t + 1) (if b then a ++ [t] else a)
def boolOf : Dv → Option Bool
  | .bl b => some b
  | _ => none
/-- what is_keeping answers of a tuple -/
def keptT (ns : List Str) (l : Nat) (xs : List Dv) : Bool := match xs.mapM boolOf with
  | some bs => decide (bs.length = ns.length) && keepF ns l bs 0 []
  | none => false
theorem sp_lines {l : Nat} {M : Mem} (h1 : 1 ≤ l) (h2 : l ≤ 4) : Wp (m_check_lines [.int (l : Nat)] M) fun d M' => Kp NoW M M' := by
  refine wp_fn rfl [some (.int (l : Nat))] rfl ?_
  unfold b_check_lines c_MOST_LINES
  array_get_dec
  refine (sp_between (by omega) (by omega)).go ?_
  rintro _ M1 ⟨rfl, rfl⟩
  array_get_dec
  refine ki_of (c := false) (by ac_nf0) ?_
  array_get_dec
  exact .refl
theorem sp_asked {ns : List Str} {l : Nat} {M : Mem} (hn : ns.length ≤ 200) (hok : ∀ x ∈ ns, okName x = true) (h1 : 1 ≤ l) (h2 : l ≤ 4) : Wp (m_check_asked [.tup (strsD ns), .int (l : Nat)] M) fun d M' => Kp NoW M M' := by
  have hl : (strsD ns).length = ns.length := by simp [strsD]
  refine wp_fn rfl [some (.tup (strsD ns)), some (.int (l : Nat))] rfl ?_
  unfold b_check_asked c_MOST_KEPT
  array_get_dec
  refine (sp_history (by omega) hok).go fun _ M1 k1 => ?_
  array_get_dec
  refine (sp_lines h1 h2).go fun _ M2 k2 => ?_
  array_get_dec
  refine ki_of (c := false) (decide_eq_false (by omega)) ?_
  array_get_dec
  exact k1.tr k2
theorem nx_at {ns : List Str} {s : Nat} (h : s < ns.length) : (nxD ns)[s]? = some (optD (nxt ns s)) := by
  unfold nxD
  rw [List.getElem?_map, List.getElem?_range h]; rfl
def blsT (bs : List Bool) : List Dv := bs.map .bl
theorem range_getD {xs : List Nat} : (List.range xs.length).map (fun j => xs.getD j 0) = xs := by
  apply List.ext_getElem
  · simp
  · intro i a b
    simp [b]
theorem filt_getD {β : Type} {xs : List Nat} {p : Nat → Bool} {f : Nat → β} : ((List.range xs.length).filter fun j => p (xs.getD j 0)).map (fun j => f (xs.getD j 0)) = (xs.filter p).map f := by
  have h : xs.filter p = ((List.range xs.length).filter fun j => p (xs.getD j 0)).map (fun j => xs.getD j 0) := by
    have := List.filter_map (f := fun j => xs.getD j 0) (p := p) (l := List.range xs.length)
    rw [range_getD] at this
    exact this
  rw [h, List.map_map]; rfl
end L77

/-! text K4_77 -/
namespace L77
open PySem L2 PySem.Spec PyProof.Rows Zl
/-- the value is no tuple -/
theorem sp_keepO {ns : List Str} {l : Nat} {d : Dv} {M : Mem} (hn : ns.length ≤ 200) (hok : ∀ x ∈ ns, okName x = true) (h1 : 1 ≤ l) (h2 : l ≤ 4)
    (hd : ∀ M', Kp NoW M M' → isiD [d, .ty "tuple"] M' = some (.bl false, M')) : Wp (m_is_keeping [.tup (strsD ns), .int (l : Nat), d] M) fun r M' => r = .bl false ∧ Kp NoW M M' := by
  refine wp_fn rfl [some (.tup (strsD ns)), some (.int (l : Nat)), some d, none, none, none, none, none] rfl ?_
  unfold b_is_keeping
  array_get_dec
  refine (sp_asked hn hok h1 h2).go fun _ M1 k1 => ?_
  array_get_dec
  refine wp_ev (hd _ k1) ?_
  array_get_dec
  refine ki_of (c := true) (by ac_nf0) ?_
  array_get_dec
  exact ⟨rfl, k1⟩
end L77

/-! text K5_77 -/
namespace L77
open PySem L2 PySem.Spec PyProof.Rows Zl
/-- a tuple of another length -/
theorem sp_keepN {ns : List Str} {l : Nat} {xs : List Dv} {M : Mem} (hn : ns.length ≤ 200) (hok : ∀ x ∈ ns, okName x = true) (h1 : 1 ≤ l) (h2 : l ≤ 4) (hx : xs.length ≠ ns.length) :
    Wp (m_is_keeping [.tup (strsD ns), .int (l : Nat), .tup xs] M) fun r M' => r = .bl false ∧ Kp NoW M M' := by
  have hl : (strsD ns).length = ns.length := by simp [strsD]
  refine wp_fn rfl [some (.tup (strsD ns)), some (.int (l : Nat)), some (.tup xs), none, none, none, none, none] rfl ?_
  unfold b_is_keeping
  array_get_dec
  refine (sp_asked hn hok h1 h2).go fun _ M1 k1 => ?_
  array_get_dec
  refine ki_of (c := false) (by ac_nf0) ?_
  array_get_dec
  refine ki_of (c := true) (by rw [hl]; simp; omega) ?_
  array_get_dec
  exact ⟨rfl, k1⟩
/-- what may stand in the tuple -/
def PartOk (M : Mem) (d : Dv) : Prop := ∀ M', Kp NoW M M' → isiD [d, .ty "bool"] M' = some (.bl (boolOf d).isSome, M')
theorem blsD_some {φ : Dv → Bool} : ∀ {xs : List Dv}, blsD (xs.map fun x => .bl (φ x)) = some (xs.map φ)
  | [] => rfl
  | x :: xs => by
    show (match blsD (xs.map fun x => .bl (φ x)) with | some bs => some (φ x :: bs) | none => none) = _
    rw [blsD_some]; rfl
theorem sp_keepB {ns : List Str} {l : Nat} {xs : List Dv} {M : Mem} (hn : ns.length ≤ 200) (hok : ∀ x ∈ ns, okName x = true) (h1 : 1 ≤ l) (h2 : l ≤ 4) (hx : xs.length = ns.length) (hp : ∀ x ∈ xs, PartOk M x) (hb : (xs.all fun x => (boolOf x).isSome) = false) :
    Wp (m_is_keeping [.tup (strsD ns), .int (l : Nat), .tup xs] M) fun r M' => r = .bl false ∧ Kp NoW M M' := by
  have hl : (strsD ns).length = ns.length := by simp [strsD]
  refine wp_fn rfl [some (.tup (strsD ns)), some (.int (l : Nat)), some (.tup xs), none, none, none, none, none] rfl ?_
  unfold b_is_keeping
  array_get_dec
  refine (sp_asked hn hok h1 h2).go fun _ M1 k1 => ?_
  array_get_dec
  refine ki_of (c := false) (by ac_nf0) ?_
  array_get_dec
  refine ki_of (c := false) (by rw [hl, hx]; simp) ?_
  array_get_dec
  refine wq_map (fun x => .bl (boolOf x).isSome) ?_
  array_get_dec
  refine k_mapT (by have : (200 : Nat) < sizeLine := (by decide); omega) (fun x hx M' k' => ?_) ?_
  · array_get_dec
    exact wp_ev (hp x hx _ (k1.tr k')) ⟨rfl, .refl⟩
  · intro n M2 e2 l2 k2 g2
    array_get_dec
    refine wp_all g2 blsD_some ?_
    array_get_dec
    refine ki_of (c := true) (by simp at hb ⊢; exact hb) ?_
    array_get_dec
    exact ⟨rfl, k1.tr k2⟩
end L77

/-! text K6_77 -/
namespace L77
open PySem L2 PySem.Spec PyProof.Rows Zl
theorem sp_keepT {ns : List Str} {l : Nat} {bs : List Bool} {M : Mem} (hn : ns.length ≤ 200) (hok : ∀ x ∈ ns, okName x = true) (h1 : 1 ≤ l) (h2 : l ≤ 4) (hx : bs.length = ns.length) :
    Wp (m_is_keeping [.tup (strsD ns), .int (l : Nat), .tup (blsT bs)] M) fun r M' => r = .bl (keepF ns l bs 0 []) ∧ Kp NoW M M' := by
  have hl : (strsD ns).length = ns.length := by simp [strsD]
  have hb : (blsT bs).length = bs.length := by simp [blsT]
  refine wp_fn rfl [some (.tup (strsD ns)), some (.int (l : Nat)), some (.tup (blsT bs)), none, none, none, none, none] rfl ?_
  unfold b_is_keeping
  array_get_dec
  refine (sp_asked hn hok h1 h2).go fun _ M1 k1 => ?_
  array_get_dec
  refine ki_of (c := false) (by ac_nf0) ?_
  array_get_dec
  refine ki_of (c := false) (by rw [hl, hb, hx]; simp) ?_
  array_get_dec
  refine wq_map (fun x => .bl true) ?_
  array_get_dec
  refine k_mapT (by have : (200 : Nat) < sizeLine := (by decide); omega) (fun x hx M' k' => ?_) ?_
  · obtain ⟨b, _, rfl⟩ := List.mem_map.mp hx
    array_get_dec
    exact ⟨rfl, .refl⟩
  · intro n M2 e2 l2 k2 g2
    array_get_dec
    refine wp_all g2 (bls_all (by simp)) ?_
    array_get_dec
    refine ki_of (c := false) (by simp) ?_
    array_get_dec
    refine (sp_nexts hn).go ?_
    rintro _ M3 ⟨m, rfl, hm, g3, k3⟩
    array_get_dec
    rename_i n4 M4 e4 g4 k4 l4
    have g34 := k4.at g3 id
    refine wq_for (fun i env M' => ∃ (x5 x6 x7 : Option Dv) (c : Nat) (act : List Nat), env = [some (.tup (strsD ns)), some (.int (l : Nat)), some (.tup (blsT bs)), some (.loc m), some (.loc c), x5, x6, x7] ∧ M'[m]? = some (.lst (nxD ns)) ∧ M'[c]? = some (.lst (intsN act)) ∧ M.length ≤ c ∧ c ≠ m ∧ (∀ s ∈ act, s < i ∧ (nxt ns s).isSome = true) ∧ act.length ≤ i ∧ keepF ns l bs 0 [] = keepF ns l (bs.drop i) i act ∧ Kp NoW M M') ?_
    array_get_dec
    refine k_forE ?_ ?_ ?_
    · exact ⟨none, none, none, n4, [], rfl, g34, g4, by have := k1.1; have := k2.1; have := k3.1; omega, by have := lt_of g3; omega, fun s hs => by simp at hs, Nat.le_refl _, rfl, by array_mem_dec⟩
    · rintro i d env M5 hd ⟨x5, x6, x7, c, act, rfl, c1, c2, c3, c4, c5, c6, c7, c8⟩
      have hi : i < bs.length := by have := (List.getElem?_eq_some_iff.mp hd).1; omega
      have ed : d = .bl bs[i] := by
        unfold blsT at hd
        rw [List.getElem?_map, List.getElem?_eq_getElem hi] at hd
        exact (Option.some.inj hd).symm
      subst ed
      have la : (intsN act).length = act.length := by simp [intsN]
      array_get_dec
      refine wq_lcG (fun j => liveB ns i (act.getD j 0)) (fun j => .int ((act.getD j 0 : Nat) : Int)) ?_
      array_get_dec
      refine ⟨by show (intsN act).length ≤ _; omega, fun j M' k' hj => ?_, fun M' k' => ?_, fun n6 M6 e6 l6 k6 g6 => ?_⟩
      · have hj' : j < act.length := by have : j < (intsN act).length := hj; omega
        have cs := k'.at c2 id
        have cm := k'.at c1 id
        have ej : act.getD j 0 = act[j] := by rw [List.getD_eq_getElem?_getD, List.getElem?_eq_getElem hj']; rfl
        obtain ⟨s1, s2⟩ := c5 _ (List.getElem_mem hj')
        obtain ⟨y, ey⟩ := Option.isSome_iff_exists.mp s2
        rw [ej]
        refine ⟨.int (act[j] : Nat), by show stpL c j M' = _; rw [stpL_at cs]; simp [intsN, hj'], ?_⟩
        array_get_dec
        refine wp_ixL cm (atI_n (x := .int (y : Nat)) (by rw [nx_at (by omega), ey]; rfl)) ?_
        array_get_dec
        refine ⟨?_, .refl, fun _ => ?_⟩
        · unfold liveB
          rw [ey]
          simp only
          exact decide_eq_decide.mpr (by omega)
        · array_get_dec
          exact ⟨rfl, .refl⟩
      · show stpL c _ M' = _
        rw [stpL_at (k'.at c2 id)]; simp
      · have ea : ((List.range (intsN act).length).filter fun j => liveB ns i (act.getD j 0)).map (fun j => Dv.int ((act.getD j 0 : Nat) : Int)) = intsN (act.filter (liveB ns i)) := by
          rw [la]; exact filt_getD (f := fun n => Dv.int (n : Nat))
        have g7 : M6[n6]? = some (.lst (intsN (act.filter (liveB ns i)))) := g6.trans (by rw [← ea])
        have lf : (act.filter (liveB ns i)).length ≤ act.length := List.length_filter_le _ _
        have lg : (intsN (act.filter (liveB ns i))).length = (act.filter (liveB ns i)).length := by simp [intsN]
        have ek : keepF ns l (bs.drop i) i act = if l ≤ (act.filter (liveB ns i)).length ∨ (bs[i] = true ∧ nxt ns i = none) then false else keepF ns l (bs.drop (i + 1)) (i + 1) (if bs[i] then act.filter (liveB ns i) ++ [i] else act.filter (liveB ns i)) := by
          rw [List.drop_eq_getElem_cons hi]; rfl
        have cm := k6.at c1 id
        array_get_dec
        by_cases q1 : l ≤ (act.filter (liveB ns i)).length
        · refine ki_of (c := true) (decide_eq_true (by omega)) ?_
          array_get_dec
          refine ⟨?_, c8.tr k6⟩
          rw [c7, ek, if_pos (.inl q1)]
        · refine ki_of (c := false) (decide_eq_false (by omega)) ?_
          array_get_dec
          have hc : ∀ s ∈ act.filter (liveB ns i), s < i + 1 ∧ (nxt ns s).isSome = true := fun s hs => by
            obtain ⟨a1, a2⟩ := c5 s (List.mem_filter.mp hs).1
            exact ⟨by omega, a2⟩
          cases hbi : bs[i] with
          | false =>
            array_get_dec
            refine ⟨_, _, _, n6, act.filter (liveB ns i), rfl, cm, g7, by have := c8.1; omega, by have := lt_of c1; omega, hc, by omega, ?_, c8.tr k6⟩
            rw [c7, ek, if_neg (by rw [hbi]; simp; omega), hbi]; rfl
          | true =>
            array_get_dec
            refine wp_ixL cm (atI_n (nx_at (by omega))) ?_
            array_get_dec
            cases hnx : nxt ns i with
            | none =>
              refine wp_ev (a := .bl true) rfl ?_
              array_get_dec
              refine ⟨?_, c8.tr k6⟩
              rw [c7, ek, if_pos (.inr ⟨hbi, hnx⟩)]
            | some y =>
              refine wp_ev (a := .bl false) rfl ?_
              array_get_dec
              refine wq_append g7 (by have : (200 : Nat) < sizeLine := (by decide); omega) ?_
              array_get_dec
              rename_i M7 g8 k8 l8
              have cm7 := k8.at cm (by have := lt_of c1; omega)
              refine ⟨_, _, _, n6, act.filter (liveB ns i) ++ [i], rfl, cm7, by rw [g8]; simp [intsN], by have := c8.1; omega, by have := lt_of c1; omega, fun s hs => ?_, by simp; omega, ?_, by array_mem_dec⟩
              · rcases List.mem_append.mp hs with h | h
                · exact hc s h
                · have := List.mem_singleton.mp h
                  subst this
                  exact ⟨by omega, by rw [hnx]; rfl⟩
              · rw [c7, ek, if_neg (by rw [hbi, hnx]; simp; omega), hbi]; rfl
    · rintro env M5 ⟨x5, x6, x7, c, act, rfl, c1, c2, c3, c4, c5, c6, c7, c8⟩
      array_get_dec
      refine ⟨?_, c8⟩
      rw [c7, hb, List.drop_length]; rfl
end L77

/-! text K7_77 -/
namespace L77
open PySem L2 PySem.Spec PyProof.Rows Zl
/-! ## the law's later -/
theorem wq_rng2 {env : En} {M : Mem} {fa fb : FE} {qi : Src → Mem → Prop} (h : Wp (fa env M) fun d M1 => Wp (fb env M1) fun d2 M2 => ∃ i j : Int, d = .int i ∧ d2 = .int j ∧ -(2 ^ 62) ≤ i ∧ i < 2 ^ 62 ∧ -(2 ^ 62) ≤ j ∧ j < 2 ^ 62 ∧ qi (srcR i (j - i).toNat) M2) : Wp (fRng2 fa fb env M) qi := by
  unfold fRng2
  refine wp_bnd (h.go fun d M1 w => wp_bnd (w.go ?_))
  rintro d2 M2 ⟨i, j, rfl, rfl, h1, h2, h3, h4, h5⟩
  simp only [h1, h2, h3, h4, and_self, if_true]
  exact wp_ok h5
theorem fst_from {ns : List Str} {a : Nat} {x : Str} : fstF ns a x = ((List.range (ns.length - a)).find? fun k => decide (ns[a + k]? = some x)).map (a + ·) := by
  by_cases ha : a ≤ ns.length
  · unfold fstF
    have e : ns.length = a + (ns.length - a) := by omega
    rw [e, List.range_add, List.find?_append]
    have h0 : (List.range a).find? (fun j => decide (a ≤ j) && decide (ns[j]? = some x)) = none := by
      rw [List.find?_eq_none]
      intro j hj
      have := List.mem_range.mp hj
      rw [decide_eq_false (by omega)]; simp
    rw [h0, Option.none_or, List.find?_map, Nat.add_sub_cancel_left]
    congr 1
    refine find_and fun k _ => ?_
    show (decide (a ≤ a + k) && decide (ns[a + k]? = some x)) = _
    rw [decide_eq_true (by omega), Bool.true_and]
  · rw [fst_end (by omega), Nat.sub_eq_zero_of_le (by omega)]; rfl
theorem hd_of {p : Nat → Bool} {a : Nat} {xs : List Nat} : ∃ ys, ((xs.filter p).map fun k => Dv.int ((a + k : Nat) : Int)) ++ [.non] = optD ((xs.find? p).map (a + ·)) :: ys := by
  have h := List.head?_filter (p := p) (l := xs)
  cases hf : xs.filter p with
  | nil =>
    rw [hf] at h
    rw [← h]
    exact ⟨[], rfl⟩
  | cons y ys =>
    rw [hf] at h
    rw [← h]
    exact ⟨_, rfl⟩
theorem sp_later {ns : List Str} {M : Mem} (hn : ns.length ≤ 200) : Wp (m__law_later [.tup (strsD ns)] M) fun d M' => ∃ m, d = .loc m ∧ M.length ≤ m ∧ M'[m]? = some (.lst (nxD ns)) ∧ Kp NoW M M' := by
  have hl : (strsD ns).length = ns.length := by simp [strsD]
  have hn2 : (nxD ns).length = ns.length := by simp [nxD]
  refine wp_fn rfl [some (.tup (strsD ns)), none, none, none, none] rfl ?_
  unfold b__law_later
  array_get_dec
  rename_i n1 M1 e1 g1 k1 l1
  refine wq_for (fun i env M' => ∃ (x2 x3 x4 : Option Dv), env = [some (.tup (strsD ns)), some (.loc n1), x2, x3, x4] ∧ M'[n1]? = some (.lst ((nxD ns).take i)) ∧ Kp NoW M M') ?_
  array_get_dec
  refine k_forR ?_ ?_ ?_
  · exact ⟨none, none, none, rfl, g1, k1⟩
  · rintro i env M2 hi ⟨x2, x3, x4, rfl, g2, k2⟩
    rw [hl] at hi
    have ei : (strsD ns)[i]? = some (.str ns[i]) := by simp [strsD, hi]
    array_get_dec
    refine wq_lcG (fun k => decide (ns[i + 1 + k]? = some ns[i])) (fun k => .int ((i + 1 + k : Nat) : Int)) ?_
    refine wq_rng2 ?_
    array_get_dec
    refine ⟨(i : Int) + 1, (ns.length : Nat), rfl, by rw [hl], by omega, by omega, by omega, by omega, ?_⟩
    have em : ((ns.length : Nat) - ((i : Int) + 1)).toNat = ns.length - (i + 1) := by omega
    rw [em]
    refine ⟨by show ns.length - (i + 1) ≤ _; omega, fun k M' k' hk => ?_, fun M' k' => ?_, fun n3 M3 e3 l3 k3 g3 => ?_⟩
    · have hk' : k < ns.length - (i + 1) := hk
      have ek : (strsD ns)[i + 1 + k]? = some (.str ns[i + 1 + k]) := by simp [strsD]
      refine ⟨.int ((i + 1 + k : Nat) : Int), ?_, ?_⟩
      · show (if k < ns.length - (i + 1) then some (some (Dv.int ((i : Int) + 1 + k))) else some none) = _
        rw [if_pos hk']; congr 3
      · array_get_dec
        refine ⟨?_, .refl, fun _ => ?_⟩
        · rw [List.getElem?_eq_getElem (by omega)]
          simp only [Bool.false_bne, Option.some.injEq]
          rw [Bool.eq_iff_iff, decide_eq_true_iff]
          exact beq_iff_eq
        · array_get_dec
          exact ⟨rfl, .refl⟩
    · show (if ns.length - (i + 1) < ns.length - (i + 1) then _ else some none) = _
      rw [if_neg (Nat.lt_irrefl _)]
    · have g2' := k3.at g2 id
      replace g3 : M3[n3]? = some (.lst (((List.range (ns.length - (i + 1))).filter (fun k => decide (ns[i + 1 + k]? = some ns[i]))).map (fun k => Dv.int ((i + 1 + k : Nat) : Int)))) := g3
      array_get_dec
      rename_i n4 M4 e4 g4 k4 l4
      have lf : (((List.range (ns.length - (i + 1))).filter (fun k => decide (ns[i + 1 + k]? = some ns[i]))).map (fun k => Dv.int ((i + 1 + k : Nat) : Int))).length ≤ 200 := by
        rw [List.length_map]
        have := List.length_filter_le (fun k => decide (ns[i + 1 + k]? = some ns[i])) (List.range (ns.length - (i + 1)))
        rw [List.length_range] at this
        omega
      refine wq_addL (k4.at g3 id) g4 (by simp only [List.length_cons, List.length_nil]; exact Nat.le_trans (Nat.add_le_add_right lf 1) (by decide)) ?_
      obtain ⟨ys, ey⟩ := hd_of (p := fun k => decide (ns[i + 1 + k]? = some ns[i])) (a := i + 1) (xs := List.range (ns.length - (i + 1)))
      have eq2 : nxt ns i = ((List.range (ns.length - (i + 1))).find? fun k => decide (ns[i + 1 + k]? = some ns[i])).map ((i + 1) + ·) := by
        unfold nxt
        rw [List.getElem?_eq_getElem hi]
        exact fst_from
      rw [ey, ← eq2]
      array_get_dec
      rename_i n5 M5 e5 g5 k5 l5
      refine wp_ixL g5 (atI_n (j := 0) rfl) ?_
      array_get_dec
      refine wq_append (k5.at (k4.at g2' id) id) (by rw [List.length_take]; have : (200 : Nat) < sizeLine := (by decide); omega) ?_
      array_get_dec
      rename_i M6 g6 k6 l6
      refine ⟨_, _, _, rfl, ?_, by array_mem_dec⟩
      rw [g6, List.take_add_one, nx_at hi]; rfl
  · rintro env M2 ⟨x2, x3, x4, rfl, g2, k2⟩
    array_get_dec
    refine ⟨n1, rfl, by omega, ?_, k2⟩
    rw [g2, List.take_of_length_le (by omega)]
end L77

/-! text K8_77 -/
namespace L77
open PySem L2 PySem.Spec PyProof.Rows Zl
/-! ## what fits, plainly -/
def stB (bs : List Bool) (s : Nat) : Bool := bs.getD s false
def cntF (ns : List Str) (bs : List Bool) (u : Nat) : Nat := ((List.range u).filter fun s => stB bs s && liveB ns u s).length
def okAt (ns : List Str) (l : Nat) (bs : List Bool) (u : Nat) : Bool := decide (cntF ns bs u < l) && !(stB bs u && (nxt ns u).isNone)
def fitsB (ns : List Str) (l : Nat) (bs : List Bool) : Bool := (List.range ns.length).all (okAt ns l bs)
theorem st_at {bs : List Bool} {s : Nat} (h : s < bs.length) : stB bs s = bs[s] := by
  unfold stB
  rw [List.getD_eq_getElem?_getD, List.getElem?_eq_getElem h]; rfl
theorem live_mono {ns : List Str} {t s : Nat} (h : liveB ns (t + 1) s = true) : liveB ns t s = true := by
  unfold liveB at h ⊢
  cases e : nxt ns s with
  | none => rw [e] at h; cases h
  | some j =>
    rw [e] at h
    simp only [decide_eq_true_eq] at h ⊢
    omega
theorem live_two {ns : List Str} {t : Nat} {xs : List Nat} : (xs.filter (liveB ns t)).filter (liveB ns (t + 1)) = xs.filter (liveB ns (t + 1)) := by
  rw [List.filter_filter]
  congr 1
  funext s
  cases h : liveB ns (t + 1) s with
  | false => rfl
  | true => rw [live_mono h]; rfl
theorem keep_step {ns : List Str} {l : Nat} {bs : List Bool} : ∀ (k t : Nat) (act : List Nat), t + k = bs.length → act.filter (liveB ns t) = ((List.range t).filter (stB bs)).filter (liveB ns t) → keepF ns l (bs.drop t) t act = (List.range' t k).all (okAt ns l bs)
  | 0, t, act, h, _ => by rw [List.drop_of_length_le (by omega)]; rfl
  | k + 1, t, act, h, e => by
    have ht : t < bs.length := by omega
    have hs := st_at ht
    have hc : (act.filter (liveB ns t)).length = cntF ns bs t := by
      rw [e, List.filter_filter]
      unfold cntF
      congr 2
      funext s
      exact Bool.and_comm ..
    rw [List.drop_eq_getElem_cons ht, List.range'_succ, List.all_cons]
    unfold keepF
    simp only
    rw [hc]
    have er : List.range (t + 1) = List.range t ++ [t] := List.range_succ
    have ih := keep_step (ns := ns) (l := l) (bs := bs) k (t + 1) (if bs[t] = true then act.filter (liveB ns t) ++ [t] else act.filter (liveB ns t)) (by omega) (by
      rw [er, List.filter_append, List.filter_cons, hs]
      cases hb : bs[t] with
      | false => simp only [if_neg (by decide : ¬ false = true)]; rw [e, live_two, List.filter_nil, List.append_nil]
      | true => simp only [if_true]; rw [List.filter_append, List.filter_append, e, live_two]; rfl)
    by_cases q : l ≤ cntF ns bs t ∨ bs[t] = true ∧ nxt ns t = none
    · rw [if_pos q]
      have : okAt ns l bs t = false := by
        unfold okAt
        rcases q with q | ⟨q1, q2⟩
        · rw [decide_eq_false (by omega)]; rfl
        · rw [hs, q1, q2]; simp
      rw [this]; rfl
    · rw [if_neg q, ih]
      have : okAt ns l bs t = true := by
        unfold okAt
        rw [decide_eq_true (by omega), hs, Bool.true_and]
        cases hb : bs[t] with
        | false => rfl
        | true =>
          cases hx : nxt ns t with
          | none => exact absurd (Or.inr ⟨hb, hx⟩) q
          | some y => rfl
      rw [this, Bool.true_and]
theorem keep_fits {ns : List Str} {l : Nat} {bs : List Bool} (h : bs.length = ns.length) : keepF ns l bs 0 [] = fitsB ns l bs := by
  have := keep_step (ns := ns) (l := l) (bs := bs) ns.length 0 [] (by omega) rfl
  rw [List.drop_zero] at this
  rw [this]
  unfold fitsB
  rw [List.range_eq_range']
/-! ## the law's fits -/
def Tr (M : Mem) (d : Dv) (bs : List Bool) : Prop := d = .tup (blsT bs) ∨ ∃ c, d = .loc c ∧ M[c]? = some (.lst (blsT bs))
theorem Tr.kp {M M' : Mem} {d : Dv} {bs : List Bool} (h : Tr M d bs) (k : Kp NoW M M') : Tr M' d bs := by
  rcases h with h | ⟨c, h1, h2⟩
  · exact .inl h
  · exact .inr ⟨c, h1, k.at h2 id⟩
theorem wp_ixK {M : Mem} {d : Dv} {bs : List Bool} {i : Nat} {q : QE} (h : Tr M d bs) (hi : i < bs.length) (k : q (.bl bs[i]) M) : Wp (ixE d (.int (i : Nat)) M) q := by
  have e : (blsT bs)[i]? = some (.bl bs[i]) := by unfold blsT; rw [List.getElem?_map, List.getElem?_eq_getElem hi]; rfl
  rcases h with rfl | ⟨c, rfl, h2⟩
  · exact wp_ixT (atI_n e) k
  · exact wp_ixL h2 (atI_n e) k
theorem range_cut {n u : Nat} {p : Nat → Bool} (h : u ≤ n) : (List.range n).filter (fun s => decide (s < u) && p s) = (List.range u).filter p := by
  have e : n = u + (n - u) := by omega
  rw [e, List.range_add, List.filter_append]
  have h1 : (List.range u).filter (fun s => decide (s < u) && p s) = (List.range u).filter p := by
    apply List.filter_congr
    intro s hs
    rw [decide_eq_true (List.mem_range.mp hs), Bool.true_and]
  have h2 : ((List.range (n - u)).map (u + ·)).filter (fun s => decide (s < u) && p s) = [] := by
    rw [List.filter_eq_nil_iff]
    intro s hs
    obtain ⟨j, _, rfl⟩ := List.mem_map.mp hs
    rw [decide_eq_false (by omega)]; simp
  rw [h1, h2, List.append_nil]
end L77

/-! text K11_77 -/
namespace L77
open PySem L2 PySem.Spec PyProof.Rows Zl
/-! ## the law's row, filled_up -/
def abc (i : Nat) : Str := ⟨#[97 + i]⟩
theorem abc_ok : ∀ i : Nat, i < 12 → okName (abc i) = true := by decide
theorem abc_ix {M : Mem} : ∀ i : Nat, i < 12 → ixE (.str "abcdefghijkl") (.int (i : Nat)) M = some (.str (abc i), M)
  | 0, _ => rfl
  | 1, _ => rfl
  | 2, _ => rfl
  | 3, _ => rfl
  | 4, _ => rfl
  | 5, _ => rfl
  | 6, _ => rfl
  | 7, _ => rfl
  | 8, _ => rfl
  | 9, _ => rfl
  | 10, _ => rfl
  | 11, _ => rfl
  | i + 12, h => by omega
theorem names_of {xs ys : List Dv} (ha : All2 (fun _ y => ∃ x, y = Dv.str x ∧ okName x = true) xs ys) : ∃ ns : List Str, ys = strsD ns ∧ ns.length = xs.length ∧ ∀ x ∈ ns, okName x = true := by
  induction ha with
  | nil => exact ⟨[], rfl, rfl, fun x hx => by simp at hx⟩
  | cons hr _ ih =>
    obtain ⟨x, e, hx⟩ := hr
    obtain ⟨ns, e2, l2, h2⟩ := ih
    refine ⟨x :: ns, by rw [e, e2]; rfl, by simp [l2], fun y hy => ?_⟩
    rcases List.mem_cons.mp hy with e | hy
    · rw [e]; exact hx
    · exact h2 y hy
theorem sp_lawrow {p many most : Nat} {M : Mem} (h : Pool p M) (h1 : many ≤ 200) (h2 : 0 < most) (h3 : most ≤ 12) :
    Wp (m__law_row [.loc p, .int (many : Nat), .int (most : Nat)] M) fun d M' => (∃ ns : List Str, d = .tup (strsD ns) ∧ ns.length ≤ many ∧ ∀ x ∈ ns, okName x = true) ∧ Pool p M' ∧ Kp (At p) M M' := by
  refine wp_fn rfl [some (.loc p), some (.int (many : Nat)), some (.int (most : Nat)), none, none, none] rfl ?_
  unfold b__law_row
  array_get_dec
  refine (sp_draw h (by omega) (by omega)).go ?_
  rintro _ M1 ⟨⟨c, rfl, hc⟩, p1, k1⟩
  array_get_dec
  refine (sp_draw p1 (by omega) (by omega)).go ?_
  rintro _ M2 ⟨⟨w, rfl, hw⟩, p2, k2⟩
  array_get_dec
  refine (sp_draw p2 (by omega) (by omega)).go ?_
  rintro _ M3 ⟨⟨z, rfl, hz⟩, p3, k3⟩
  array_get_dec
  refine k_join (fun fl M' => (∃ e, fl = .nx e ∧ e = [some (.loc p), some (.int (many : Nat)), some (.int (most : Nat)), some (.int (c : Nat)), some (.int (1 + (w : Nat))), none] ∧ M' = M3) ∨ (∃ ns : List Str, fl = .rt (.tup (strsD ns)) ∧ ns.length ≤ many ∧ (∀ x ∈ ns, okName x = true) ∧ Pool p M' ∧ Kp (At p) M M')) (fun _ => ?_) (fun _ => ?_) ?_
  · array_get_dec
    refine wq_map (fun x => match x with | .int j => .str (abc (j % (1 + (w : Nat))).toNat) | _ => .non) ?_
    array_get_dec
    refine k_mapR (size_le (by omega)) (fun j hj M' k' => ?_) ?_
    · array_get_dec
      have e : ((j : Nat) : Int) % (1 + (w : Nat)) = ((j % (1 + w) : Nat) : Int) := by simp
      simp only [e]
      refine wp_ev (abc_ix (j % (1 + w)) (by have := Nat.mod_lt j (show 1 + w > 0 by omega); omega)) ?_
      exact ⟨by rw [Int.toNat_natCast], .refl⟩
    · intro n M' e l k g
      array_get_dec
      refine .inr ⟨(List.range c).map fun j => abc (j % (1 + w)), ?_, by simp; omega, ?_, p3.kp k, by array_mem_dec⟩
      · congr 2
        unfold intsR strsD
        rw [List.map_map, List.map_map]
        refine List.map_congr_left fun j _ => ?_
        have e : ((j : Nat) : Int) % (1 + (w : Nat)) = ((j % (1 + w) : Nat) : Int) := by simp
        show Dv.str (abc (((j : Nat) : Int) % (1 + (w : Nat))).toNat) = _
        rw [e, Int.toNat_natCast]; rfl
      · intro x hx
        obtain ⟨j, _, rfl⟩ := List.mem_map.mp hx
        exact abc_ok _ (by have := Nat.mod_lt j (show 1 + w > 0 by omega); omega)
  · array_get_dec
    exact .inl ⟨_, rfl, rfl, rfl⟩
  · rintro fl M' (⟨e, rfl, rfl, rfl⟩ | ⟨ns, rfl, a1, a2, a3, a4⟩)
    · array_get_dec
      refine wq_lcJ (fun _ y => ∃ x, y = Dv.str x ∧ okName x = true) p ?_
      array_get_dec
      refine k_lcJ (by omega) p3 (fun j hj M' k' l' p' => ?_) ?_
      · array_get_dec
        refine (sp_draw p' (by omega) (by omega)).go ?_
        rintro _ M4 ⟨⟨r, rfl, hr⟩, p4, k4⟩
        refine wp_ev (abc_ix r (by omega)) ?_
        exact ⟨⟨_, rfl, abc_ok r (by omega)⟩, k4, p4⟩
      · intro ys m M' em lm ha k' p' g'
        array_get_dec
        obtain ⟨ns, rfl, n1, n2⟩ := names_of ha
        exact ⟨⟨ns, rfl, by rw [n1, intsR_len]; omega, n2⟩, p', by array_mem_dec⟩
    · array_get_dec
      exact ⟨⟨ns, rfl, a1, a2⟩, a3, a4⟩
theorem wq_lstR {env : En} {M : Mem} {fa : FE} {q : QE} (h : Wp (fa env M) fun d M1 => ∃ n : Nat, d = .int (n : Nat) ∧ n ≤ 1000 ∧ kNew (.lst (intsR n)) (fun k M2 => q (.loc k) M2) M1) : Wp (fLstR (fRg1 fa) env M) q := by
  obtain ⟨d, M1, e, n, rfl, hn, k⟩ := h
  have hk : rgOk 0 (n : Nat) = true := by
    unfold rgOk
    rw [decide_eq_true_eq]
    omega
  refine ⟨.loc M1.length, M1 ++ [.lst (intsR n)], ?_, k _ _ rfl at_new (.app _) (by simp)⟩
  unfold fLstR fRg1 bnd
  simp only [e, hk, if_true, rgD_n]
theorem wq_pop {n r : Nat} {xs : List Dv} {x : Dv} {M : Mem} {q : QE} (hm : M[n]? = some (.lst xs)) (hr : xs[r]? = some x) (hl : xs.length ≤ 1000) (k : kWr n (.lst (xs.eraseIdx r)) (fun M' => q x M') M) : Wp (popD (.loc n) [.int (r : Nat)] M) q := by
  have h1 := (List.getElem?_eq_some_iff.mp hr).1
  have hs : seqIndex? ((r : Nat) : Int) xs.length = some r := by
    unfold seqIndex?
    simp
    omega
  refine wp_ev (a := x) (M' := M.set n (.lst (xs.eraseIdx r))) ?_ (k _ (at_set hm) (.set fun _ => rfl) (by simp))
  unfold popD
  simp only [hm]
  rw [if_pos (by omega)]
  simp only [hs, hr]
theorem erase_ints : ∀ {xs : List Nat} {r : Nat}, (intsN xs).eraseIdx r = intsN (xs.eraseIdx r)
  | [], _ => rfl
  | _ :: _, 0 => rfl
  | x :: xs, r + 1 => congrArg (Dv.int (x : Nat) :: ·) (erase_ints (xs := xs) (r := r))
end L77

/-! text Q1_77 -/
namespace L77
open PySem L2 PySem.Spec PyProof.Rows Zl
/-! ## counting -/
theorem cnt_cut {p : Nat → Bool} {g : Nat} : ∀ {xs : List Nat}, xs.Nodup → g ∈ xs → p g = true → xs.countP (fun s => p s && s != g) + 1 = xs.countP p
  | [], _, h, _ => by cases h
  | x :: xs, hn, h, hp => by
    obtain ⟨h1, h2⟩ := List.nodup_cons.mp hn
    by_cases e : x = g
    · subst e
      have : xs.countP (fun s => p s && s != x) = xs.countP p := by
        apply List.countP_congr
        intro y hy
        have : y ≠ x := fun z => h1 (z ▸ hy)
        simp [this]
      rw [List.countP_cons_of_neg (by simp), List.countP_cons_of_pos hp, this]
    · have hg : g ∈ xs := by
        rcases List.mem_cons.mp h with z | z
        · exact absurd z.symm e
        · exact z
      have ih := cnt_cut h2 hg hp
      cases hx : p x with
      | true =>
        rw [List.countP_cons_of_pos (by simp [hx, e]), List.countP_cons_of_pos hx]; omega
      | false =>
        rw [List.countP_cons_of_neg (by simp [hx]), List.countP_cons_of_neg (by simp [hx])]; omega
theorem cnt_add {p : Nat → Bool} {i : Nat} {xs : List Nat} (hn : xs.Nodup) (h : i ∈ xs) (hp : p i = false) : xs.countP (fun s => p s || s == i) = xs.countP p + 1 := by
  have := cnt_cut (p := fun s => p s || s == i) hn h (by simp)
  rw [← this]
  congr 1
  apply List.countP_congr
  intro y _
  by_cases e : y = i
  · subst e; simp [hp]
  · simp [e]
theorem cnt_addle {p : Nat → Bool} {i : Nat} {xs : List Nat} (hn : xs.Nodup) : xs.countP (fun s => p s || s == i) ≤ xs.countP p + 1 := by
  by_cases h : i ∈ xs
  · cases hp : p i with
    | false => rw [cnt_add hn h hp]; exact Nat.le_refl _
    | true =>
      refine Nat.le_trans (List.countP_mono_left fun y _ hy => ?_) (Nat.le_succ _)
      by_cases e : y = i
      · rw [e]; exact hp
      · simpa [e] using hy
  · refine Nat.le_trans (List.countP_mono_left fun y hy hh => ?_) (Nat.le_succ _)
    have : y ≠ i := fun z => h (z ▸ hy)
    simpa [this] using hh
theorem st_set {bs : List Bool} {g s : Nat} {b : Bool} (h : g < bs.length) : stB (bs.set g b) s = if s = g then b else stB bs s := by
  unfold stB
  rw [List.getD_eq_getElem?_getD, List.getElem?_set, List.getD_eq_getElem?_getD]
  by_cases e : g = s
  · subst e; simp [h]
  · rw [if_neg e, if_neg (fun z => e z.symm)]
theorem cntF_eq {ns : List Str} {bs : List Bool} {u : Nat} : cntF ns bs u = (List.range u).countP fun s => stB bs s && liveB ns u s := List.countP_eq_length_filter.symm
theorem cntF_le {ns : List Str} {bs cs : List Bool} {u : Nat} (h : ∀ s, stB bs s = true → stB cs s = true) : cntF ns bs u ≤ cntF ns cs u := by
  rw [cntF_eq, cntF_eq]
  refine List.countP_mono_left fun s _ hs => ?_
  rw [Bool.and_eq_true] at hs ⊢
  exact ⟨h s hs.1, hs.2⟩
def cntB (bs : List Bool) : Nat := (List.range bs.length).countP (stB bs)
theorem cntB_le {bs cs : List Bool} (hl : bs.length = cs.length) (h : ∀ s, stB bs s = true → stB cs s = true) : cntB bs ≤ cntB cs := by
  unfold cntB
  rw [hl]
  exact List.countP_mono_left fun s _ hs => h s hs
theorem map_st {bs : List Bool} : (List.range bs.length).map (stB bs) = bs := by
  apply List.ext_getElem
  · simp
  · intro i a b
    simp [stB, b]
theorem cntB_count {bs : List Bool} : cntB bs = bs.count true := by
  have h : bs.count true = ((List.range bs.length).map (stB bs)).count true := by rw [map_st]
  rw [h]
  unfold cntB List.count
  rw [List.countP_map]
  apply List.countP_congr
  intro s _
  simp
/-! ## the next requests -/
theorem nxt_some {ns : List Str} {s j : Nat} (h : nxt ns s = some j) : s < j ∧ j < ns.length ∧ ns[j]? = ns[s]? ∧ ∀ k, s < k → k < j → ns[k]? ≠ ns[s]? := by
  unfold nxt at h
  cases e : ns[s]? with
  | none => rw [e] at h; cases h
  | some x =>
    rw [e] at h
    simp only at h
    unfold fstF at h
    rw [List.find?_range_eq_some] at h
    obtain ⟨h1, h2, h3⟩ := h
    rw [Bool.and_eq_true, decide_eq_true_eq, decide_eq_true_eq] at h1
    refine ⟨by omega, by simpa using h2, h1.2, fun k k1 k2 hk => ?_⟩
    have := h3 k k2
    rw [hk, decide_eq_true (by omega : s + 1 ≤ k)] at this
    simp at this
theorem nxt_inj {ns : List Str} {s s' j : Nat} (h : nxt ns s = some j) (h' : nxt ns s' = some j) : s = s' := by
  obtain ⟨a1, a2, a3, a4⟩ := nxt_some h
  obtain ⟨b1, b2, b3, b4⟩ := nxt_some h'
  rcases Nat.lt_trichotomy s s' with z | z | z
  · exact absurd (b3.symm.trans a3) (a4 s' z b1)
  · exact z
  · exact absurd (a3.symm.trans b3) (b4 s z a1)
theorem nxt_out {ns : List Str} {s : Nat} (h : ns.length ≤ s) : nxt ns s = none := by
  unfold nxt
  rw [List.getElem?_eq_none h]
theorem live_some {ns : List Str} {t s : Nat} (h : liveB ns t s = true) : ∃ j, nxt ns s = some j ∧ t < j := by
  unfold liveB at h
  cases e : nxt ns s with
  | none => rw [e] at h; cases h
  | some j =>
    rw [e] at h
    exact ⟨j, rfl, of_decide_eq_true h⟩
theorem live_of {ns : List Str} {t s j : Nat} (h : nxt ns s = some j) (ht : t < j) : liveB ns t s = true := by
  unfold liveB
  rw [h]
  exact decide_eq_true ht
/-! ## the greedy keeping -/
def lastN (ns : List Str) (a : List Nat) : Nat := (a.map fun s => (nxt ns s).getD 0).foldl max 0
def goneN (ns : List Str) (a : List Nat) : Nat := ((List.range ns.length).find? fun s => decide (nxt ns s = some (lastN ns a))).getD 0
def gput (ns : List Str) (t : Nat) (a : List Nat) : List Nat := if (nxt ns t).isSome then a ++ [t] else a
def gstep (ns : List Str) (l t : Nat) (st : List Nat × List Bool) : List Nat × List Bool :=
  if l ≤ (st.1.filter (liveB ns t)).length then (gput ns t ((st.1.filter (liveB ns t)).erase (goneN ns (st.1.filter (liveB ns t)))), st.2.set (goneN ns (st.1.filter (liveB ns t))) false)
  else (gput ns t (st.1.filter (liveB ns t)), st.2)
def grun (ns : List Str) (l : Nat) : Nat → List Nat × List Bool
  | 0 => ([], (List.range ns.length).map fun s => (nxt ns s).isSome)
  | t + 1 => gstep ns l t (grun ns l t)
def bestF (ns : List Str) (l : Nat) : List Bool := (grun ns l ns.length).2
theorem max_ge : ∀ {xs : List Nat} {b : Nat}, b ≤ xs.foldl max b ∧ ∀ x ∈ xs, x ≤ xs.foldl max b
  | [], b => ⟨Nat.le_refl _, fun x hx => by simp at hx⟩
  | y :: xs, b => by
    obtain ⟨h1, h2⟩ := max_ge (xs := xs) (b := max b y)
    refine ⟨Nat.le_trans (Nat.le_max_left ..) h1, fun x hx => ?_⟩
    rcases List.mem_cons.mp hx with rfl | hx
    · exact Nat.le_trans (Nat.le_max_right ..) h1
    · exact h2 x hx
theorem max_mem : ∀ {xs : List Nat} {b : Nat}, xs.foldl max b = b ∨ xs.foldl max b ∈ xs
  | [], b => .inl rfl
  | y :: xs, b => by
    show List.foldl max (max b y) xs = b ∨ List.foldl max (max b y) xs ∈ y :: xs
    rcases max_mem (xs := xs) (b := max b y) with h | h
    · rw [h]
      rcases Nat.le_total b y with z | z
      · rw [Nat.max_eq_right z]; exact .inr (List.mem_cons_self ..)
      · rw [Nat.max_eq_left z]; exact .inl rfl
    · exact .inr (List.mem_cons_of_mem _ h)
/-- the one that goes -/
theorem gone_mem {ns : List Str} {a : List Nat} (h0 : a ≠ []) (h : ∀ s ∈ a, ∃ j, nxt ns s = some j) : goneN ns a ∈ a ∧ nxt ns (goneN ns a) = some (lastN ns a) ∧ ∀ s ∈ a, ∀ j, nxt ns s = some j → j ≤ lastN ns a := by
  have top : ∀ s ∈ a, ∀ j, nxt ns s = some j → j ≤ lastN ns a := fun s hs j hj => by
    have := (max_ge (xs := a.map fun s => (nxt ns s).getD 0) (b := 0)).2 j (List.mem_map.mpr ⟨s, hs, by rw [hj]; rfl⟩)
    exact this
  obtain ⟨s, hs, hl⟩ : ∃ s ∈ a, nxt ns s = some (lastN ns a) := by
    rcases max_mem (xs := a.map fun s => (nxt ns s).getD 0) (b := 0) with z | z
    · obtain ⟨s, hs⟩ := List.exists_mem_of_ne_nil _ h0
      obtain ⟨j, hj⟩ := h s hs
      have h1 := top s hs j hj
      have h2 := (nxt_some hj).1
      have h3 : lastN ns a = 0 := z
      omega
    · obtain ⟨s, hs, e⟩ := List.mem_map.mp z
      obtain ⟨j, hj⟩ := h s hs
      refine ⟨s, hs, ?_⟩
      rw [hj]
      rw [hj] at e
      exact congrArg some e
  have hsn : s < ns.length := by
    by_cases z : s < ns.length
    · exact z
    · rw [nxt_out (by omega)] at hl; cases hl
  have hf : (List.range ns.length).find? (fun s => decide (nxt ns s = some (lastN ns a))) = some s := by
    refine range_find hsn (fun j hj => ?_) (decide_eq_true hl)
    rw [decide_eq_false_iff_not]
    intro z
    have := nxt_inj z hl
    omega
  have e : goneN ns a = s := by unfold goneN; rw [hf]; rfl
  rw [e]
  exact ⟨hs, hl, top⟩
end L77

/-! text Q2_77 -/
namespace L77
open PySem L2 PySem.Spec PyProof.Rows Zl
structure GI (ns : List Str) (l t : Nat) (st : List Nat × List Bool) : Prop where
  len : st.2.length = ns.length
  act : st.1.filter (liveB ns t) = (List.range t).filter fun s => stB st.2 s && liveB ns t s
  sub : ∀ s, stB st.2 s = true → (nxt ns s).isSome = true
  new : ∀ s, t ≤ s → stB st.2 s = (nxt ns s).isSome
  low : ∀ u, u < t → cntF ns st.2 u < l
theorem cnt_succ {ns : List Str} {f : List Bool} {t : Nat} : cntF ns f (t + 1) ≤ cntF ns f t + 1 := by
  rw [cntF_eq, cntF_eq, List.range_succ, List.countP_append]
  have h1 : (List.range t).countP (fun s => stB f s && liveB ns (t + 1) s) ≤ (List.range t).countP (fun s => stB f s && liveB ns t s) := by
    refine List.countP_mono_left fun s _ hs => ?_
    rw [Bool.and_eq_true] at hs ⊢
    exact ⟨hs.1, live_mono hs.2⟩
  have h2 : [t].countP (fun s => stB f s && liveB ns (t + 1) s) ≤ 1 := by
    have := List.countP_le_length (p := fun s => stB f s && liveB ns (t + 1) s) (l := [t])
    simpa using this
  omega
theorem range_nodup {n : Nat} : (List.range n).Nodup := List.nodup_range
/-- behind the drop, the new one is put -/
theorem gi_put {ns : List Str} {t : Nat} {a : List Nat} {f : List Bool} (ha : a = (List.range t).filter fun s => stB f s && liveB ns t s) (hf : stB f t = (nxt ns t).isSome) :
    (gput ns t a).filter (liveB ns (t + 1)) = (List.range (t + 1)).filter fun s => stB f s && liveB ns (t + 1) s := by
  have h1 : a.filter (liveB ns (t + 1)) = (List.range t).filter fun s => stB f s && liveB ns (t + 1) s := by
    rw [ha, List.filter_filter]
    congr 1
    funext s
    cases h : liveB ns (t + 1) s with
    | false => simp
    | true => rw [live_mono h]; simp
  rw [List.range_succ, List.filter_append, ← h1]
  unfold gput
  cases hs : (nxt ns t).isSome with
  | false =>
    rw [hs] at hf
    rw [if_neg (by decide)]
    simp [hf]
  | true =>
    rw [hs] at hf
    rw [if_pos rfl, List.filter_append]
    congr 1
    rw [List.filter_cons, List.filter_cons, hf]; rfl
theorem gi_zero {ns : List Str} {l : Nat} : GI ns l 0 (grun ns l 0) := by
  have e : ∀ s, stB ((List.range ns.length).map fun s => (nxt ns s).isSome) s = (nxt ns s).isSome := by
    intro s
    unfold stB
    rw [List.getD_eq_getElem?_getD, List.getElem?_map]
    by_cases h : s < ns.length
    · rw [List.getElem?_range h]; rfl
    · rw [List.getElem?_eq_none (by simpa using h), nxt_out (by omega)]; rfl
  exact ⟨by simp [grun], rfl, fun s h => by rw [← e]; exact h, fun s _ => e s, fun u hu => by omega⟩
theorem gi_cnt {ns : List Str} {l t : Nat} {st : List Nat × List Bool} (h : GI ns l t st) : cntF ns st.2 t ≤ l := by
  cases t with
  | zero => exact Nat.zero_le _
  | succ t =>
    have := h.low t (Nat.lt_succ_self _)
    have := cnt_succ (ns := ns) (f := st.2) (t := t)
    omega
theorem gi_len {ns : List Str} {l t : Nat} {st : List Nat × List Bool} (h : GI ns l t st) : (st.1.filter (liveB ns t)).length = cntF ns st.2 t := by rw [h.act]; rfl
/-- what is dropped -/
theorem gi_gone {ns : List Str} {l t : Nat} {st : List Nat × List Bool} (h : GI ns l t st) (hl : 1 ≤ l) (hd : l ≤ (st.1.filter (liveB ns t)).length) :
    ∃ g, goneN ns (st.1.filter (liveB ns t)) = g ∧ g < t ∧ g < ns.length ∧ stB st.2 g = true ∧ liveB ns t g = true ∧ g ∈ st.1.filter (liveB ns t) ∧ (∀ s, s < t → stB st.2 s = true → liveB ns t s = true → ∀ j k, nxt ns s = some j → nxt ns g = some k → j ≤ k) := by
  have hne : st.1.filter (liveB ns t) ≠ [] := by
    intro z
    rw [z] at hd
    have : l ≤ 0 := hd
    omega
  obtain ⟨a1, a2, a3⟩ := gone_mem hne fun s hs => by
    obtain ⟨j, hj, _⟩ := live_some (List.mem_filter.mp hs).2
    exact ⟨j, hj⟩
  have hm := a1
  rw [h.act] at a1
  obtain ⟨b1, b2⟩ := List.mem_filter.mp a1
  rw [Bool.and_eq_true] at b2
  rw [← h.act] at b1 b2
  refine ⟨_, rfl, List.mem_range.mp b1, ?_, b2.1, b2.2, hm, fun s s1 s2 s3 j k hj hk => ?_⟩
  · have := nxt_some a2; omega
  · rw [a2] at hk
    cases hk
    refine a3 s ?_ j hj
    rw [h.act]
    exact List.mem_filter.mpr ⟨List.mem_range.mpr s1, by rw [s2, s3]; rfl⟩
theorem gi_step {ns : List Str} {l t : Nat} {st : List Nat × List Bool} (h : GI ns l t st) (hl : 1 ≤ l) : GI ns l (t + 1) (gstep ns l t st) := by
  unfold gstep
  by_cases hd : l ≤ (st.1.filter (liveB ns t)).length
  · rw [if_pos hd]
    obtain ⟨g, eg, g1, g2, g3, g4, g5, g6⟩ := gi_gone h hl hd
    rw [eg]
    have hg : g < st.2.length := by rw [h.len]; exact g2
    have ss : ∀ s, stB (st.2.set g false) s = if s = g then false else stB st.2 s := fun s => st_set hg
    have sub : ∀ s, stB (st.2.set g false) s = true → stB st.2 s = true := fun s hs => by
      rw [ss] at hs
      split at hs
      · cases hs
      · exact hs
    refine ⟨by rw [List.length_set]; exact h.len, ?_, fun s hs => h.sub s (sub s hs), fun s hs => ?_, fun u hu => ?_⟩
    · refine gi_put ?_ ?_
      · rw [h.act, List.Nodup.erase_eq_filter (range_nodup.filter _), List.filter_filter]
        congr 1
        funext s
        rw [ss]
        by_cases e : s = g
        · subst e; simp
        · simp [e]
      · show stB (st.2.set g false) t = _
        rw [ss, if_neg (by omega)]
        exact h.new t (Nat.le_refl _)
    · show stB (st.2.set g false) s = _
      rw [ss, if_neg (by omega)]
      exact h.new s (by omega)
    · show cntF ns (st.2.set g false) u < l
      by_cases e : u = t
      · subst e
        have h1 := gi_cnt h
        have h2 := cnt_cut (p := fun s => stB st.2 s && liveB ns u s) (g := g) (xs := List.range u) range_nodup (List.mem_range.mpr g1) (by rw [g3, g4]; rfl)
        rw [← cntF_eq] at h2
        have h3 : cntF ns (st.2.set g false) u = (List.range u).countP fun s => stB st.2 s && liveB ns u s && s != g := by
          rw [cntF_eq]
          apply List.countP_congr
          intro s _
          rw [ss]
          by_cases e : s = g
          · subst e; simp
          · simp [e]
        omega
      · exact Nat.lt_of_le_of_lt (cntF_le sub) (h.low u (by omega))
  · rw [if_neg hd]
    refine ⟨h.len, gi_put h.act (h.new t (Nat.le_refl _)), h.sub, fun s hs => h.new s (by omega), fun u hu => ?_⟩
    by_cases e : u = t
    · subst e
      have := gi_len h
      show cntF ns st.2 u < l
      omega
    · exact h.low u (by omega)
theorem gi_run {ns : List Str} {l : Nat} (hl : 1 ≤ l) : ∀ t, GI ns l t (grun ns l t)
  | 0 => gi_zero
  | t + 1 => gi_step (gi_run hl t) hl
theorem fits_iff {ns : List Str} {l : Nat} {bs : List Bool} : fitsB ns l bs = true ↔ ∀ u, u < ns.length → cntF ns bs u < l ∧ (stB bs u = true → (nxt ns u).isSome = true) := by
  unfold fitsB
  rw [List.all_eq_true]
  constructor
  · intro h u hu
    have := h u (List.mem_range.mpr hu)
    unfold okAt at this
    rw [Bool.and_eq_true, decide_eq_true_eq] at this
    refine ⟨this.1, fun hs => ?_⟩
    have h2 := this.2
    rw [hs] at h2
    cases e : nxt ns u with
    | none => rw [e] at h2; cases h2
    | some j => rfl
  · intro h u hu
    obtain ⟨h1, h2⟩ := h u (List.mem_range.mp hu)
    unfold okAt
    rw [decide_eq_true h1, Bool.true_and]
    cases hs : stB bs u with
    | false => rfl
    | true =>
      have := h2 hs
      cases e : nxt ns u with
      | none => rw [e] at this; cases this
      | some j => rfl
/-- the greedy keeping is one -/
theorem best_fits {ns : List Str} {l : Nat} (hl : 1 ≤ l) : fitsB ns l (bestF ns l) = true := by
  have h := gi_run (ns := ns) hl ns.length
  exact fits_iff.mpr fun u hu => ⟨h.low u hu, h.sub u⟩
theorem best_len {ns : List Str} {l : Nat} (hl : 1 ≤ l) : (bestF ns l).length = ns.length := (gi_run (ns := ns) hl ns.length).len
/-- no keeping has more -/
theorem exch {ns : List Str} {l : Nat} {O : List Bool} (hl : 1 ≤ l) (hO : O.length = ns.length) (hfit : fitsB ns l O = true) : ∀ t, t ≤ ns.length →
    ∃ P : List Bool, P.length = ns.length ∧ fitsB ns l P = true ∧ cntB O ≤ cntB P ∧ ∀ s, stB P s = true → stB (grun ns l t).2 s = true
  | 0, _ => ⟨O, hO, hfit, Nat.le_refl _, fun s hs => by
      rw [(gi_zero (ns := ns) (l := l)).new s (Nat.zero_le _)]
      by_cases h : s < ns.length
      · exact (fits_iff.mp hfit s h).2 hs
      · unfold stB at hs
        rw [List.getD_eq_getElem?_getD, List.getElem?_eq_none (by omega)] at hs
        cases hs⟩
  | t + 1, ht => by
    obtain ⟨P, p1, p2, p3, p4⟩ := exch hl hO hfit t (by omega)
    have h := gi_run (ns := ns) hl t
    show ∃ P : List Bool, P.length = ns.length ∧ fitsB ns l P = true ∧ cntB O ≤ cntB P ∧ ∀ s, stB P s = true → stB (gstep ns l t (grun ns l t)).2 s = true
    have h' := gi_step h hl
    unfold gstep at h' ⊢
    by_cases hd : l ≤ ((grun ns l t).1.filter (liveB ns t)).length
    · rw [if_pos hd] at h' ⊢
      obtain ⟨g, eg, g1, g2, g3, g4, g5, g6⟩ := gi_gone h hl hd
      rw [eg] at h' ⊢
      have hlen := h.len
      have hgl := gi_len h
      generalize (grun ns l t).1 = act at *
      generalize (grun ns l t).2 = f at *
      have hg : g < f.length := by rw [hlen]; exact g2
      have ss : ∀ s, stB (f.set g false) s = if s = g then false else stB f s := fun s => st_set hg
      by_cases hPg : stB P g = true
      · obtain ⟨i, i1, i2, i3, i4⟩ : ∃ i, i < t ∧ stB f i = true ∧ liveB ns t i = true ∧ stB P i = false := by
          by_cases z : ∃ i, i < t ∧ stB f i = true ∧ liveB ns t i = true ∧ stB P i = false
          · exact z
          · exfalso
            have hle : cntF ns f t ≤ cntF ns P t := by
              rw [cntF_eq, cntF_eq]
              refine List.countP_mono_left fun s hs hh => ?_
              rw [Bool.and_eq_true] at hh ⊢
              refine ⟨?_, hh.2⟩
              cases e : stB P s with
              | true => rfl
              | false => exact absurd ⟨s, List.mem_range.mp hs, hh.1, hh.2, e⟩ z
            have h1 := (fits_iff.mp p2 t (by omega)).1
            omega
        have hig : i ≠ g := by
          rintro rfl
          rw [hPg] at i4; cases i4
        obtain ⟨ji, hji, tji⟩ := live_some i3
        obtain ⟨jg, hjg, tjg⟩ := live_some g4
        have hij : ji ≤ jg := g6 i i1 i2 i3 ji jg hji hjg
        have hi : i < ns.length := by have := nxt_some hji; omega
        have pg : g < P.length := by omega
        have pi : i < (P.set g false).length := by rw [List.length_set]; omega
        have sP : ∀ s, stB ((P.set g false).set i true) s = if s = i then true else if s = g then false else stB P s := fun s => by rw [st_set pi, st_set pg]
        have le' : ∀ s, stB ((P.set g false).set i true) s = true → stB (f.set g false) s = true := fun s hs => by
          rw [sP] at hs
          rw [ss]
          split at hs
          · rename_i e
            rw [e, if_neg hig]; exact i2
          · split at hs
            · cases hs
            · rename_i e2
              rw [if_neg e2]; exact p4 s hs
        refine ⟨(P.set g false).set i true, by simp [p1], fits_iff.mpr fun u hu => ⟨?_, fun hs => ?_⟩, ?_, le'⟩
        · by_cases ut : u < t + 1
          · exact Nat.lt_of_le_of_lt (cntF_le le') (h'.low u ut)
          · refine Nat.lt_of_le_of_lt ?_ (fits_iff.mp p2 u hu).1
            rw [cntF_eq, cntF_eq]
            cases hlu : liveB ns u i with
            | false =>
              refine List.countP_mono_left fun s _ hh => ?_
              rw [Bool.and_eq_true] at hh ⊢
              refine ⟨?_, hh.2⟩
              have := hh.1
              rw [sP] at this
              split at this
              · rename_i e
                rw [e, hlu] at hh; cases hh.2
              · split at this
                · cases this
                · exact this
            | true =>
              obtain ⟨j2, hj2, uj⟩ := live_some hlu
              rw [hji] at hj2
              cases hj2
              have hlg : liveB ns u g = true := live_of hjg (by omega)
              have c1 := cnt_cut (p := fun s => stB P s && liveB ns u s) (g := g) (xs := List.range u) range_nodup (List.mem_range.mpr (by omega)) (by rw [hPg, hlg]; rfl)
              have c2 := cnt_addle (p := fun s => stB P s && liveB ns u s && s != g) (i := i) (xs := List.range u) range_nodup
              have c3 : (List.range u).countP (fun s => stB ((P.set g false).set i true) s && liveB ns u s) ≤ (List.range u).countP (fun s => (stB P s && liveB ns u s && s != g) || s == i) := by
                refine List.countP_mono_left fun s _ hh => ?_
                rw [sP] at hh
                by_cases e : s = i
                · simp [e]
                · rw [if_neg e] at hh
                  by_cases e2 : s = g
                  · rw [if_pos e2] at hh; simp at hh
                  · rw [if_neg e2] at hh
                    simp only [Bool.or_eq_true, Bool.and_eq_true] at hh ⊢
                    exact .inl ⟨hh, by simp [e2]⟩
              omega
        · rw [sP] at hs
          split at hs
          · rename_i e
            rw [e, hji]; rfl
          · split at hs
            · cases hs
            · exact (fits_iff.mp p2 u hu).2 hs
        · refine Nat.le_trans p3 ?_
          unfold cntB
          rw [List.length_set, List.length_set, p1]
          have c1 := cnt_cut (p := stB P) (g := g) (xs := List.range ns.length) range_nodup (List.mem_range.mpr g2) hPg
          have c2 := cnt_add (p := fun s => stB P s && s != g) (i := i) (xs := List.range ns.length) range_nodup (List.mem_range.mpr hi) (by rw [i4]; rfl)
          have c3 : (List.range ns.length).countP (stB ((P.set g false).set i true)) = (List.range ns.length).countP (fun s => (stB P s && s != g) || s == i) := by
            apply List.countP_congr
            intro s _
            rw [sP]
            by_cases e : s = i
            · simp [e]
            · by_cases e2 : s = g
              · simp [e, e2]
              · simp [e, e2]
          omega
      · refine ⟨P, p1, p2, p3, fun s hs => ?_⟩
        show stB (f.set g false) s = true
        rw [ss]
        split
        · rename_i e
          rw [e] at hs; exact absurd hs hPg
        · exact p4 s hs
    · rw [if_neg hd]
      exact ⟨P, p1, p2, p3, p4⟩
theorem best_most {ns : List Str} {l : Nat} {O : List Bool} (hl : 1 ≤ l) (hO : O.length = ns.length) (hfit : fitsB ns l O = true) : cntB O ≤ cntB (bestF ns l) := by
  obtain ⟨P, p1, p2, p3, p4⟩ := exch hl hO hfit ns.length (Nat.le_refl _)
  exact Nat.le_trans p3 (cntB_le (p1.trans (best_len hl).symm) p4)
end L77

/-! text Q3_77 -/
namespace L77
open PySem L2 PySem.Spec PyProof.Rows Zl
/-! ## rules: enumerate a list, max, index, remove, count, sum -/
def stpEL (n : Nat) : Stp := fun i M => match M[n]? with
  | some (.lst xs) => some (pairs xs i)
  | _ => none
theorem k_enumL {n : Nat} {xs : List Dv} {M : Mem} {qi : Src → Mem → Prop} (hm : M[n]? = some (.lst xs)) (h : qi ⟨xs.length, stpEL n⟩ M) : kEnum qi (.loc n) M := by
  refine ⟨⟨xs.length, stpEL n⟩, ?_, h⟩
  unfold srcE
  simp only [hm]
  rfl
theorem stpEL_at {n i : Nat} {xs : List Dv} {M : Mem} (hm : M[n]? = some (.lst xs)) : stpEL n i M = some (pairs xs i) := by
  unfold stpEL; simp only [hm]
theorem k_forEL {env : En} {M : Mem} {g : FG} {f : FS} {Q : QS} {n : Nat} {xs : List Dv} {I : Nat → En → Mem → Prop} (hm : ∀ i env M, I i env M → M[n]? = some (.lst xs)) (h0 : I 0 env M) (h1 : ∀ i d env M, xs[i]? = some d → I i env M → Wp (g (.pr [.int (i : Nat), d]) env M) fun e1 M1 => Wp (f e1 M1) (kLoop (I (i + 1)) Q)) (h2 : ∀ env M, I xs.length env M → Q (.nx env) M) : kFor I g f env Q ⟨xs.length, stpEL n⟩ M :=
  ⟨h0, fun i env M hi hh => ⟨_, by show stpEL n i M = _; rw [stpEL_at (hm i env M hh)]; unfold pairs; rw [List.getElem?_eq_getElem hi]; rfl, h1 i _ env M (List.getElem?_eq_getElem hi) hh⟩,
    fun env M hh => ⟨by show stpEL n xs.length M = _; rw [stpEL_at (hm _ env M hh)]; unfold pairs; rw [List.getElem?_eq_none (Nat.le_refl _)]; rfl, h2 env M hh⟩⟩
theorem ints_n : ∀ xs : List Nat, intsD (intsN xs) = some (xs.map fun n => ((n : Nat) : Int))
  | [] => rfl
  | x :: xs => by
    show (match intsD (intsN xs) with | some ns => some (((x : Nat) : Int) :: ns) | none => none) = _
    rw [ints_n xs]; rfl
theorem maxI_n : ∀ (xs : List Nat) (m : Nat), maxI (m : Nat) (xs.map fun n => ((n : Nat) : Int)) = ((xs.foldl max m : Nat) : Int)
  | [], _ => rfl
  | x :: xs, m => by
    show maxI (if ((x : Nat) : Int) > (m : Nat) then ((x : Nat) : Int) else (m : Nat)) (xs.map fun n => ((n : Nat) : Int)) = ((xs.foldl max (max m x) : Nat) : Int)
    rw [← maxI_n xs (max m x)]
    congr 1
    split <;> omega
theorem wq_maxN {n : Nat} {xs : List Nat} {M : Mem} {q : QE} (hm : M[n]? = some (.lst (intsN xs))) (h0 : xs ≠ []) (k : q (.int (xs.foldl max 0 : Nat)) M) : Wp (maxD [.loc n] M) q := by
  refine wp_ev ?_ k
  unfold maxD
  simp only [hm]
  cases xs with
  | nil => exact absurd rfl h0
  | cons x xs =>
    rw [ints_n]
    simp only [List.map_cons]
    rw [maxI_n]
    show some (Dv.int ((List.foldl max x xs : Nat) : Int), M) = some (Dv.int ((List.foldl max (max 0 x) xs : Nat) : Int), M)
    rw [Nat.zero_max]
theorem idxB_first {p : Dv → Bool} : ∀ {ys : List Dv} {j : Nat} {w : Dv}, ys[j]? = some w → p w = true → (∀ m c, m < j → ys[m]? = some c → p c = false) → idxB p ys = some j
  | [], _, _, h, _, _ => by simp at h
  | y :: ys, 0, w, h, hw, _ => by
    have : y = w := by simpa using h
    unfold idxB
    rw [this, if_pos hw]
  | y :: ys, j + 1, w, h, hw, hn => by
    unfold idxB
    rw [if_neg (by rw [hn 0 y (Nat.succ_pos _) rfl]; decide), idxB_first (ys := ys) (j := j) (w := w) (by simpa using h) hw fun m c hm hc => hn (m + 1) c (by omega) (by simpa using hc)]
theorem nx_flat {ns : List Str} : (nxD ns).all flatD = true := by
  rw [List.all_eq_true]
  intro x hx
  obtain ⟨t, _, rfl⟩ := List.mem_map.mp hx
  cases nxt ns t <;> rfl
theorem eqF_opt {o : Option Nat} {j : Nat} : eqF (optD o) (.int (j : Nat)) = decide (o = some j) := by
  cases o with
  | none => rfl
  | some k =>
    show (((k : Nat) : Int) == ((j : Nat) : Int)) = _
    rw [Bool.eq_iff_iff, beq_iff_eq, decide_eq_true_iff]
    constructor
    · intro h; rw [Int.ofNat_inj.mp h]
    · intro h; cases h; rfl
theorem idx_nx {ns : List Str} {g j : Nat} (h : nxt ns g = some j) : idxB (fun y => eqF y (.int (j : Nat))) (nxD ns) = some g := by
  have hg : g < ns.length := by have := nxt_some h; omega
  refine idxB_first (nx_at hg) (by rw [eqF_opt, h]; simp) fun m c hm hc => ?_
  rw [nx_at (by omega)] at hc
  cases hc
  rw [eqF_opt, decide_eq_false_iff_not]
  intro z
  have := nxt_inj z h
  omega
theorem intsOf_n (xs : List Nat) : intsOf (intsN xs) = some (xs.map fun n => ((n : Nat) : Int)) := by
  have : intsN xs = (xs.map fun n => ((n : Nat) : Int)).map .int := by
    unfold intsN; rw [List.map_map]; rfl
  rw [this, intsOf_map]
theorem erase_n : ∀ (xs : List Nat) (g : Nat), ((xs.map fun n => ((n : Nat) : Int)).erase (g : Nat)).map Dv.int = intsN (xs.erase g)
  | [], _ => rfl
  | x :: xs, g => by
    rw [List.map_cons]
    by_cases e : x = g
    · subst e
      rw [List.erase_cons_head, List.erase_cons_head]
      unfold intsN; rw [List.map_map]; rfl
    · rw [List.erase_cons_tail (by simpa using fun z => e (Int.ofNat_inj.mp z)), List.erase_cons_tail (by simpa using e)]
      show _ :: _ = Dv.int (x : Nat) :: intsN (xs.erase g)
      rw [← erase_n xs g]
theorem wq_remove {n g : Nat} {xs : List Nat} {M : Mem} {q : QE} (hm : M[n]? = some (.lst (intsN xs))) (hg : g ∈ xs) (k : kWr n (.lst (intsN (xs.erase g))) (fun M' => q .non M') M) : Wp (removeD (.loc n) [.int (g : Nat)] M) q := by
  refine wp_ev (a := .non) (M' := M.set n (.lst (intsN (xs.erase g)))) ?_ (k _ (at_set hm) (.set fun _ => rfl) (by simp))
  unfold removeD
  simp only [hm, intsOf_n]
  rw [if_pos (List.mem_map.mpr ⟨g, hg, rfl⟩), erase_n]
theorem set_bls {bs : List Bool} {i : Nat} {b : Bool} : (blsT bs).set i (.bl b) = blsT (bs.set i b) := by
  unfold blsT
  rw [List.map_set]
theorem cnt_bls {bs : List Bool} : (blsT bs).countP (fun y => eqF y (.bl true)) = cntB bs := by
  rw [cntB_count]
  unfold blsT List.count
  rw [List.countP_map]
  apply List.countP_congr
  intro b _
  cases b <;> decide
theorem bls_flat {bs : List Bool} : (blsT bs).all flatD = true := by
  rw [List.all_eq_true]
  intro x hx
  obtain ⟨b, _, rfl⟩ := List.mem_map.mp hx
  rfl
/-! ## the greedy step in two -/
def gmid (ns : List Str) (l t : Nat) (st : List Nat × List Bool) : List Nat × List Bool :=
  if l ≤ (st.1.filter (liveB ns t)).length then ((st.1.filter (liveB ns t)).erase (goneN ns (st.1.filter (liveB ns t))), st.2.set (goneN ns (st.1.filter (liveB ns t))) false)
  else (st.1.filter (liveB ns t), st.2)
theorem gstep_mid {ns : List Str} {l t : Nat} {st : List Nat × List Bool} : gstep ns l t st = (gput ns t (gmid ns l t st).1, (gmid ns l t st).2) := by
  unfold gstep gmid
  split <;> rfl
theorem grun_act {ns : List Str} {l : Nat} : ∀ {t : Nat} {s : Nat}, s ∈ (grun ns l t).1 → s < t ∧ ∃ j, nxt ns s = some j
  | 0, s, h => by simp [grun] at h
  | t + 1, s, h => by
    have h' : s ∈ (gstep ns l t (grun ns l t)).1 := h
    rw [gstep_mid] at h'
    have hm : ∀ s, s ∈ (gmid ns l t (grun ns l t)).1 → s ∈ (grun ns l t).1 := by
      intro s hs
      unfold gmid at hs
      split at hs
      · exact (List.mem_filter.mp (List.mem_of_mem_erase hs)).1
      · exact (List.mem_filter.mp hs).1
    unfold gput at h'
    split at h'
    · rename_i hi
      rcases List.mem_append.mp h' with z | z
      · obtain ⟨a, b⟩ := grun_act (hm s z); exact ⟨by omega, b⟩
      · rw [List.mem_singleton.mp z]
        exact ⟨Nat.lt_succ_self _, Option.isSome_iff_exists.mp hi⟩
    · obtain ⟨a, b⟩ := grun_act (hm s h'); exact ⟨by omega, b⟩
theorem grun_few {ns : List Str} {l : Nat} : ∀ {t : Nat}, (grun ns l t).1.length ≤ t
  | 0 => Nat.le_refl _
  | t + 1 => by
    show (gstep ns l t (grun ns l t)).1.length ≤ _
    rw [gstep_mid]
    have h1 := grun_few (ns := ns) (l := l) (t := t)
    have h2 := List.length_filter_le (liveB ns t) (grun ns l t).1
    have hm : (gmid ns l t (grun ns l t)).1.length ≤ (grun ns l t).1.length := by
      unfold gmid
      split
      · exact Nat.le_trans (List.length_erase_le ..) h2
      · exact h2
    unfold gput
    split
    · rw [List.length_append]; simp only [List.length_cons, List.length_nil]; omega
    · show (gmid ns l t (grun ns l t)).1.length ≤ t + 1
      omega
end L77

/-! text Q4_77 -/
namespace L77
open PySem L2 PySem.Spec PyProof.Rows Zl
/-! ## best_keeping -/
def notN : Dv → Dv
  | .non => .bl false
  | _ => .bl true
theorem not_nx {ns : List Str} {l : Nat} : (nxD ns).map notN = blsT (grun ns l 0).2 := by
  show ((List.range ns.length).map fun t => optD (nxt ns t)).map notN = ((List.range ns.length).map fun s => (nxt ns s).isSome).map Dv.bl
  rw [List.map_map, List.map_map]
  refine List.map_congr_left fun t _ => ?_
  show notN (optD (nxt ns t)) = Dv.bl (nxt ns t).isSome
  cases nxt ns t <;> rfl
def nxI (ns : List Str) : Dv → Dv
  | .int s => .int (((nxt ns s.toNat).getD 0 : Nat) : Int)
  | _ => .non
theorem nx_map {ns : List Str} {a : List Nat} : (intsN a).map (nxI ns) = intsN (a.map fun s => (nxt ns s).getD 0) := by
  unfold intsN
  rw [List.map_map, List.map_map]
  refine List.map_congr_left fun s _ => ?_
  show Dv.int (((nxt ns ((s : Nat) : Int).toNat).getD 0 : Nat) : Int) = _
  rw [Int.toNat_natCast]; rfl
theorem sp_best {ns : List Str} {l : Nat} {M : Mem} (hn : ns.length ≤ 200) (hok : ∀ x ∈ ns, okName x = true) (h1 : 1 ≤ l) (h2 : l ≤ 4) :
    Wp (m_best_keeping [.tup (strsD ns), .int (l : Nat)] M) fun r M' => r = .tup (blsT (bestF ns l)) ∧ Kp NoW M M' := by
  have hl : (strsD ns).length = ns.length := by simp [strsD]
  have hx : (nxD ns).length = ns.length := by simp [nxD]
  refine wp_fn rfl [some (.tup (strsD ns)), some (.int (l : Nat)), none, none, none, none, none, none, none, none] rfl ?_
  unfold b_best_keeping
  array_get_dec
  refine (sp_asked hn hok h1 h2).go fun _ M1 k1 => ?_
  array_get_dec
  refine (sp_nexts hn).go ?_
  rintro _ M2 ⟨m, rfl, hm, g2, k2⟩
  array_get_dec
  rename_i n3 M3 e3 g3 k3 l3
  have g23 := k3.at g2 id
  refine wq_map notN ?_
  array_get_dec
  refine k_mapL g23 (size_le (by omega)) (fun x hx M' k' => ?_) ?_
  · obtain ⟨t, _, rfl⟩ := List.mem_map.mp hx
    array_get_dec
    cases nxt ns t with
    | none => exact wp_ev (a := .bl false) rfl ⟨rfl, .refl⟩
    | some j => exact wp_ev (a := .bl true) rfl ⟨rfl, .refl⟩
  intro n4 M4 e4 l4 k4 g4
  rw [not_nx (l := l)] at g4
  have g24 := k4.at g23 id
  have g34 := k4.at g3 id
  have m2 := lt_of g2
  have kk4 : Kp NoW M M4 := by array_mem_dec
  have hM := kk4.1
  have hM2 : M.length ≤ M2.length := (k1.tr k2).1
  array_get_dec
  refine wq_for (fun i env M' => ∃ (x5 x6 x7 x8 x9 : Option Dv) (c : Nat), env = [some (.tup (strsD ns)), some (.int (l : Nat)), some (.loc m), some (.loc c), some (.loc n4), x5, x6, x7, x8, x9] ∧ M'[m]? = some (.lst (nxD ns)) ∧ M'[c]? = some (.lst (intsN (grun ns l i).1)) ∧ M'[n4]? = some (.lst (blsT (grun ns l i).2)) ∧ M.length ≤ c ∧ c ≠ m ∧ c ≠ n4 ∧ Kp NoW M M') ?_
  array_get_dec
  refine k_enumL g24 ?_
  refine k_forEL (fun i env M' hh => by obtain ⟨_, _, _, _, _, _, _, h, _⟩ := hh; exact h) ?_ ?_ ?_
  · exact ⟨_, _, _, _, _, n3, rfl, g24, g34, g4, by omega, by omega, by omega, kk4⟩
  · rintro i d env M5 hd ⟨x5, x6, x7, x8, x9, c, rfl, c1, c2, c3, c4, c5, c6, c7⟩
    have hi : i < ns.length := by have := (List.getElem?_eq_some_iff.mp hd).1; omega
    rw [nx_at hi] at hd
    cases hd
    have gi := gi_run (ns := ns) (l := l) h1 i
    have ga := fun s (hs : s ∈ (grun ns l i).1) => grun_act hs
    have gf := grun_few (ns := ns) (l := l) (t := i)
    have est : grun ns l (i + 1) = gstep ns l i (grun ns l i) := rfl
    rw [est, gstep_mid]
    generalize hst : grun ns l i = st at *
    have la : (intsN st.1).length = st.1.length := by simp [intsN]
    array_get_dec
    refine wq_lcG (fun j => liveB ns i (st.1.getD j 0)) (fun j => .int ((st.1.getD j 0 : Nat) : Int)) ?_
    array_get_dec
    refine ⟨by show (intsN st.1).length ≤ _; omega, fun j M' k' hj => ?_, fun M' k' => ?_, fun n6 M6 e6 l6 k6 g6 => ?_⟩
    · have hj' : j < st.1.length := by have : j < (intsN st.1).length := hj; omega
      have cs := k'.at c2 id
      have cm := k'.at c1 id
      have ej : st.1.getD j 0 = st.1[j] := by rw [List.getD_eq_getElem?_getD, List.getElem?_eq_getElem hj']; rfl
      obtain ⟨s1, y, ey⟩ := ga _ (List.getElem_mem hj')
      rw [ej]
      refine ⟨.int (st.1[j] : Nat), by show stpL c j M' = _; rw [stpL_at cs]; simp [intsN, hj'], ?_⟩
      array_get_dec
      refine wp_ixL cm (atI_n (x := .int (y : Nat)) (by rw [nx_at (by omega), ey]; rfl)) ?_
      array_get_dec
      refine ⟨?_, .refl, fun _ => ?_⟩
      · unfold liveB
        rw [ey]
        simp only
        exact decide_eq_decide.mpr (by omega)
      · array_get_dec
        exact ⟨rfl, .refl⟩
    · show stpL c _ M' = _
      rw [stpL_at (k'.at c2 id)]; simp
    · have ea : ((List.range (intsN st.1).length).filter fun j => liveB ns i (st.1.getD j 0)).map (fun j => Dv.int ((st.1.getD j 0 : Nat) : Int)) = intsN (st.1.filter (liveB ns i)) := by
        rw [la]; exact filt_getD (f := fun n => Dv.int (n : Nat))
      have g7 : M6[n6]? = some (.lst (intsN (st.1.filter (liveB ns i)))) := g6.trans (by rw [← ea])
      have lf : (st.1.filter (liveB ns i)).length ≤ st.1.length := List.length_filter_le _ _
      have lg : (intsN (st.1.filter (liveB ns i))).length = (st.1.filter (liveB ns i)).length := by simp [intsN]
      have cm := k6.at c1 id
      have cf := k6.at c3 id
      have m5 := lt_of c1
      have f5 := lt_of c3
      have kk6 := c7.tr k6
      have hM6 := c7.1
      array_get_dec
      refine k_join (fun fl M' => ∃ x7 x8 : Option Dv, fl = .nx [some (.tup (strsD ns)), some (.int (l : Nat)), some (.loc m), some (.loc n6), some (.loc n4), some (.int (i : Nat)), some (optD (nxt ns i)), x7, x8, x9] ∧ M'[m]? = some (.lst (nxD ns)) ∧ M'[n6]? = some (.lst (intsN (gmid ns l i st).1)) ∧ M'[n4]? = some (.lst (blsT (gmid ns l i st).2)) ∧ Kp NoW M M') (fun hq => ?_) (fun hq => ?_) ?_
      · have hq' := of_decide_eq_true hq
        have hd : l ≤ (st.1.filter (liveB ns i)).length := by omega
        obtain ⟨g, eg, e1, e2, e3', e4', e5', e6'⟩ := gi_gone gi h1 hd
        have hne : st.1.filter (liveB ns i) ≠ [] := fun z => by rw [z] at e5'; simp at e5'
        obtain ⟨_, f2, _⟩ := gone_mem (ns := ns) hne fun s hs => by
          obtain ⟨j, hj, _⟩ := live_some (List.mem_filter.mp hs).2
          exact ⟨j, hj⟩
        rw [eg] at f2
        have emid : gmid ns l i st = ((st.1.filter (liveB ns i)).erase g, st.2.set g false) := by
          unfold gmid
          rw [if_pos hd, eg]
        rw [emid]
        array_get_dec
        refine wq_map (nxI ns) ?_
        array_get_dec
        refine k_mapL g7 (size_le (by omega)) (fun x hx M' k' => ?_) ?_
        · obtain ⟨s, hs, rfl⟩ := List.mem_map.mp hx
          obtain ⟨s1, y, ey⟩ := ga s (List.mem_filter.mp hs).1
          array_get_dec
          refine wp_ixL (k'.at cm id) (atI_n (x := .int (y : Nat)) (by rw [nx_at (by omega), ey]; rfl)) ?_
          refine ⟨?_, .refl⟩
          show _ = Dv.int (((nxt ns ((s : Nat) : Int).toNat).getD 0 : Nat) : Int)
          rw [Int.toNat_natCast, ey]; rfl
        intro n8 M8 e8 l8 k8 g8
        rw [nx_map] at g8
        array_get_dec
        refine wq_maxN g8 (by simpa using hne) ?_
        have cm8 := k8.at cm id
        array_get_dec
        refine wp_or1 ?_
        array_get_dec
        refine wp_indexL cm8 rfl nx_flat (idx_nx f2) ?_
        array_get_dec
        have cf8 := k8.at cf id
        refine k_setNO cf8 (by have := gi.len; simp [blsT]; omega) ?_
        rw [set_bls]
        array_get_dec
        rename_i M9 g9 k9 l9
        have g79 := k9.at (k8.at g7 id) (by omega)
        refine wq_remove g79 e5' ?_
        array_get_dec
        rename_i M10 g10 k10 l10
        exact ⟨_, _, rfl, k10.at (k9.at cm8 (by omega)) (by omega), g10, k10.at g9 (by omega), by array_mem_dec⟩
      · have hq' := of_decide_eq_false hq
        have emid : gmid ns l i st = (st.1.filter (liveB ns i), st.2) := by
          unfold gmid
          rw [if_neg (by omega)]
        rw [emid]
        array_get_dec
        exact ⟨_, _, rfl, cm, g7, cf, kk6⟩
      · rintro _ M7 ⟨x7', x8', rfl, d1, d2, d3, d4⟩
        array_get_dec
        have lm : (intsN (gmid ns l i st).1).length ≤ 1000 := by
          have : (gmid ns l i st).1.length ≤ st.1.length := by
            unfold gmid
            split
            · exact Nat.le_trans (List.length_erase_le ..) lf
            · exact lf
          simp [intsN]; omega
        cases hx : nxt ns i with
        | none =>
          refine wp_ev (a := .bl false) rfl ?_
          array_get_dec
          refine ⟨_, _, _, _, _, n6, rfl, d1, ?_, d3, by omega, by omega, by omega, d4⟩
          unfold gput
          rw [hx]; exact d2
        | some j =>
          refine wp_ev (a := .bl true) rfl ?_
          array_get_dec
          refine wq_append d2 (by have : (2000 : Nat) < sizeLine := (by decide); omega) ?_
          array_get_dec
          rename_i M8 g8 k8 l8
          refine ⟨_, _, _, _, _, n6, rfl, k8.at d1 (by omega), ?_, k8.at d3 (by omega), by omega, by omega, by omega, by array_mem_dec⟩
          unfold gput
          rw [hx, g8]
          simp [intsN]
  · rintro env M5 ⟨x5, x6, x7, x8, x9, c, rfl, c1, c2, c3, c4, c5, c6, c7⟩
    rw [hx] at c3
    array_get_dec
    exact ⟨rfl, c7⟩
theorem sum_bls {bs : List Bool} : (bs.map fun b => if b then (1 : Int) else 0).sum = (cntB bs : Nat) := by
  rw [cntB_count]
  induction bs with
  | nil => rfl
  | cons b bs ih =>
    rw [List.map_cons, List.sum_cons, ih, List.count_cons]
    cases b
    · simp
    · simp; omega
end L77

/-! text Q5_77 -/
namespace L77
open PySem L2 PySem.Spec PyProof.Rows Zl
/-! ## least_misses, the law's holds -/
def leastI (ns : List Str) (l : Nat) : Int := (ns.length : Nat) - ((cntB (bestF ns l) : Nat) : Int)
def intB : Dv → Dv
  | .bl b => .int (if b then 1 else 0)
  | _ => .non
theorem ints_b : ∀ bs : List Bool, intsD ((blsT bs).map intB) = some (bs.map fun b => if b then (1 : Int) else 0)
  | [] => rfl
  | b :: bs => by
    show (match intsD ((blsT bs).map intB) with | some ns => some ((if b then (1 : Int) else 0) :: ns) | none => none) = _
    rw [ints_b bs]; rfl
theorem sp_least {ns : List Str} {l : Nat} {M : Mem} (hn : ns.length ≤ 200) (hok : ∀ x ∈ ns, okName x = true) (h1 : 1 ≤ l) (h2 : l ≤ 4) :
    Wp (m_least_misses [.tup (strsD ns), .int (l : Nat)] M) fun r M' => r = .int (leastI ns l) ∧ Kp NoW M M' := by
  have hl : (strsD ns).length = ns.length := by simp [strsD]
  have hb : (blsT (bestF ns l)).length = ns.length := by simp [blsT, best_len h1]
  refine wp_fn rfl [some (.tup (strsD ns)), some (.int (l : Nat)), none, none] rfl ?_
  unfold b_least_misses
  array_get_dec
  refine (sp_best hn hok h1 h2).go ?_
  rintro _ M1 ⟨rfl, k1⟩
  array_get_dec
  refine wq_map intB ?_
  array_get_dec
  refine k_mapT (size_le (by omega)) (fun x hx M' k' => ?_) ?_
  · obtain ⟨b, _, rfl⟩ := List.mem_map.mp hx
    cases b with
    | false => array_get_dec; exact ⟨rfl, .refl⟩
    | true => array_get_dec; exact ⟨rfl, .refl⟩
  intro n2 M2 e2 l2 k2 g2
  array_get_dec
  refine wp_ev (a := .int ((cntB (bestF ns l) : Nat) : Int)) (M' := M2) ?_ ?_
  · unfold sumD
    simp only [g2]
    rw [ints_b]
    simp only
    rw [sum_bls]
  array_get_dec
  exact ⟨by rw [hl]; rfl, by array_mem_dec⟩
end L77

/-! text Q6_77 -/
namespace L77
open PySem L2 PySem.Spec PyProof.Rows Zl
/-! ## lines that know all requests -/
def restN (ns : List Str) (t : Nat) (y : Str) : Nat := match fstF ns t y with
  | some j => j - t
  | none => ns.length
def victR (ns : List Str) (t : Nat) (held : List Str) : Nat := (held.map (restN ns t)).idxOf ((held.map (restN ns t)).foldl max 0)
def fpop (ns : List Str) (l t : Nat) (held : List Str) : List Str := if held.length = l then held.eraseIdx (victR ns t held) else held
def fstep (ns : List Str) (l t : Nat) (x : Str) (st : List Str × Nat) : List Str × Nat := if x ∈ st.1 then st else (fpop ns l t st.1 ++ [x], st.2 + 1)
def frun (ns : List Str) (l : Nat) : Nat → List Str × Nat
  | 0 => ([], 0)
  | t + 1 => match ns[t]? with
    | some x => fstep ns l t x (frun ns l t)
    | none => frun ns l t
theorem nodup_le {α : Type} [DecidableEq α] : ∀ {xs ys : List α}, xs.Nodup → (∀ x ∈ xs, x ∈ ys) → xs.length ≤ ys.length
  | [], _, _, _ => Nat.zero_le _
  | x :: xs, ys, hn, h => by
    obtain ⟨h1, h2⟩ := List.nodup_cons.mp hn
    have hx := h x (List.mem_cons_self ..)
    have := nodup_le (xs := xs) (ys := ys.erase x) h2 fun y hy => (List.mem_erase_of_ne (fun (z : y = x) => h1 (z ▸ hy))).mpr (h y (List.mem_cons_of_mem _ hy))
    rw [List.length_erase_of_mem hx] at this
    have := List.length_pos_of_mem hx
    rw [List.length_cons]; omega
theorem fst_some {ns : List Str} {a j : Nat} {x : Str} (h : fstF ns a x = some j) : a ≤ j ∧ j < ns.length ∧ ns[j]? = some x ∧ ∀ k, a ≤ k → k < j → ns[k]? ≠ some x := by
  unfold fstF at h
  rw [List.find?_range_eq_some] at h
  obtain ⟨h1, h2, h3⟩ := h
  rw [Bool.and_eq_true, decide_eq_true_eq, decide_eq_true_eq] at h1
  refine ⟨h1.1, by simpa using h2, h1.2, fun k k1 k2 hk => ?_⟩
  have := h3 k k2
  rw [hk, decide_eq_true k1] at this
  simp at this
theorem fst_none {ns : List Str} {a k : Nat} {x : Str} (h : fstF ns a x = none) (hk : a ≤ k) : ns[k]? ≠ some x := by
  intro z
  unfold fstF at h
  rw [List.find?_eq_none] at h
  have hkl := (List.getElem?_eq_some_iff.mp z).1
  have := h k (List.mem_range.mpr hkl)
  rw [z, decide_eq_true hk] at this
  simp at this
theorem nxt_le {ns : List Str} {s t : Nat} {x : Str} (h : ns[s]? = some x) (h' : ns[t]? = some x) (hst : s < t) : ∃ j, nxt ns s = some j ∧ j ≤ t := by
  unfold nxt
  rw [h]
  simp only
  cases e : fstF ns (s + 1) x with
  | none => exact absurd h' (fst_none e hst)
  | some j =>
    refine ⟨j, rfl, ?_⟩
    obtain ⟨_, _, _, h4⟩ := fst_some e
    by_cases z : j ≤ t
    · exact z
    · exact absurd h' (h4 t hst (by omega))
theorem prev_ex {ns : List Str} {t : Nat} {x : Str} (h' : ns[t]? = some x) : ∀ (k s : Nat), t - s ≤ k → s < t → ns[s]? = some x → ∃ s0, s0 < t ∧ nxt ns s0 = some t
  | 0, s, hk, hst, _ => by omega
  | k + 1, s, hk, hst, h => by
    obtain ⟨j, hj, hjt⟩ := nxt_le h h' hst
    obtain ⟨a1, a2, a3, a4⟩ := nxt_some hj
    by_cases e : j = t
    · subst e; exact ⟨s, hst, hj⟩
    · exact prev_ex h' k j (by omega) (by omega) (a3.trans h)
/-- the last request for y ahead of t, and the first from t on -/
theorem last_ex {ns : List Str} {t j : Nat} {y : Str} (hj : fstF ns t y = some j) : ∀ (k s : Nat), t - s ≤ k → s < t → ns[s]? = some y → ∃ s0, s0 < t ∧ nxt ns s0 = some j ∧ ns[s0]? = some y
  | 0, s, hk, hst, _ => by omega
  | k + 1, s, hk, hst, h => by
    obtain ⟨b1, b2, b3, b4⟩ := fst_some hj
    obtain ⟨i, hi, hij⟩ := nxt_le h b3 (by omega)
    obtain ⟨a1, a2, a3, a4⟩ := nxt_some hi
    by_cases e : i < t
    · exact last_ex hj k i (by omega) e (a3.trans h)
    · by_cases e2 : i = j
      · subst e2; exact ⟨s, hst, hi, h⟩
      · exact absurd (a3.trans h) (b4 i (by omega) (by omega))
theorem fst_nxt {ns : List Str} {s j t : Nat} {y : Str} (h : ns[s]? = some y) (hj : nxt ns s = some j) (h1 : s < t) (h2 : t ≤ j) : fstF ns t y = some j := by
  obtain ⟨a1, a2, a3, a4⟩ := nxt_some hj
  cases e : fstF ns t y with
  | none => exact absurd (a3.trans h) (fst_none e h2)
  | some i =>
    obtain ⟨b1, b2, b3, b4⟩ := fst_some e
    by_cases z : i < j
    · exact absurd (b3.trans h.symm) (a4 i (by omega) z)
    · by_cases z2 : j < i
      · exact absurd (a3.trans h) (b4 j h2 z2)
      · rw [show i = j by omega]
theorem same_s {ns : List Str} {s s' j j' t : Nat} (h : ns[s]? = ns[s']?) (h1 : s < t) (h1' : s' < t) (hj : nxt ns s = some j) (hj' : nxt ns s' = some j') (t1 : t ≤ j) (t2 : t ≤ j') : s = s' := by
  obtain ⟨a1, a2, a3, a4⟩ := nxt_some hj
  obtain ⟨b1, b2, b3, b4⟩ := nxt_some hj'
  rcases Nat.lt_trichotomy s s' with z | z | z
  · exact absurd h.symm (a4 s' z (by omega))
  · exact z
  · exact absurd h (b4 s z (by omega))
/-! the two runs -/
def doneB (ns : List Str) (t s : Nat) : Bool := match nxt ns s with
  | some j => decide (j < t)
  | none => false
structure FI (ns : List Str) (t l : Nat) (st : List Str × Nat) (f : List Bool) : Prop where
  nd : st.1.Nodup
  few : st.1.length ≤ l
  old : ∀ y ∈ st.1, ∃ s, s < t ∧ ns[s]? = some y
  same : ∀ s j y, nxt ns s = some j → s < t → t ≤ j → ns[s]? = some y → (y ∈ st.1 ↔ stB f s = true)
  mis : st.2 + (List.range ns.length).countP (fun s => stB f s && doneB ns t s) = t
theorem live_lt {ns : List Str} {s j : Nat} (h : nxt ns s = some j) : s < ns.length ∧ ∃ y, ns[s]? = some y := by
  have := nxt_some h
  have hs : s < ns.length := by omega
  exact ⟨hs, _, List.getElem?_eq_getElem hs⟩
def nmAt (ns : List Str) (s : Nat) : Str := (ns[s]?).getD ""
theorem nm_at {ns : List Str} {s : Nat} {y : Str} (h : ns[s]? = some y) : nmAt ns s = y := by unfold nmAt; rw [h]; rfl
/-- the names of the live ones -/
theorem names_live {ns : List Str} {t l : Nat} {st : List Str × Nat} {f : List Bool} (h : FI ns t l st f) :
    (((List.range t).filter fun s => stB f s && liveB ns t s).map (nmAt ns)).Nodup ∧ ∀ y ∈ ((List.range t).filter fun s => stB f s && liveB ns t s).map (nmAt ns), y ∈ st.1 ∧ ns[t]? ≠ some y := by
  constructor
  · unfold List.Nodup
    rw [List.pairwise_map]
    refine List.Pairwise.imp_of_mem (R := (· ≠ ·)) ?_ (range_nodup.filter _)
    intro s s' hs hs' hne e
    apply hne
    obtain ⟨a1, a2⟩ := List.mem_filter.mp hs
    obtain ⟨b1, b2⟩ := List.mem_filter.mp hs'
    rw [Bool.and_eq_true] at a2 b2
    obtain ⟨j, hj, tj⟩ := live_some a2.2
    obtain ⟨j', hj', tj'⟩ := live_some b2.2
    obtain ⟨_, y, hy⟩ := live_lt hj
    obtain ⟨_, y', hy'⟩ := live_lt hj'
    rw [nm_at hy, nm_at hy'] at e
    exact same_s (by rw [hy, hy', e]) (List.mem_range.mp a1) (List.mem_range.mp b1) hj hj' (by omega) (by omega)
  · intro y hy
    obtain ⟨s, hs, rfl⟩ := List.mem_map.mp hy
    obtain ⟨a1, a2⟩ := List.mem_filter.mp hs
    rw [Bool.and_eq_true] at a2
    obtain ⟨j, hj, tj⟩ := live_some a2.2
    obtain ⟨_, y, hy⟩ := live_lt hj
    rw [nm_at hy]
    refine ⟨(h.same s j y hj (List.mem_range.mp a1) (by omega) hy).mpr a2.1, fun z => ?_⟩
    have := (nxt_some hj).2.2.2 t (List.mem_range.mp a1) tj
    exact this (z.trans hy.symm)
end L77

/-! text R1_77 -/
namespace L77
open PySem L2 PySem.Spec PyProof.Rows Zl
/-! ## least misses compared, plainly -/
theorem cnt_inj {n m : Nat} {p q : Nat → Bool} (g : Nat → Nat) (h : ∀ s, s < n → p s = true → g s < m ∧ q (g s) = true)
    (inj : ∀ s s', s < n → s' < n → p s = true → p s' = true → g s = g s' → s = s') : (List.range n).countP p ≤ (List.range m).countP q := by
  rw [List.countP_eq_length_filter, List.countP_eq_length_filter]
  have hnd : (((List.range n).filter p).map g).Nodup := by
    unfold List.Nodup
    rw [List.pairwise_map]
    refine List.Pairwise.imp_of_mem (R := (· ≠ ·)) ?_ (range_nodup.filter _)
    intro s s' hs hs' hne e
    obtain ⟨a1, a2⟩ := List.mem_filter.mp hs
    obtain ⟨b1, b2⟩ := List.mem_filter.mp hs'
    exact hne (inj s s' (List.mem_range.mp a1) (List.mem_range.mp b1) a2 b2 e)
  have := nodup_le (ys := (List.range m).filter q) hnd fun y hy => by
    obtain ⟨s, hs, rfl⟩ := List.mem_map.mp hy
    obtain ⟨a1, a2⟩ := List.mem_filter.mp hs
    obtain ⟨b1, b2⟩ := h s (List.mem_range.mp a1) a2
    exact List.mem_filter.mpr ⟨List.mem_range.mpr b1, b2⟩
  rwa [List.length_map] at this
theorem cnt_not {n : Nat} {p : Nat → Bool} : (List.range n).countP p + (List.range n).countP (fun s => !p s) = n := by
  have := List.length_eq_countP_add_countP p (l := List.range n)
  rw [List.length_range] at this
  have e : (List.range n).countP (fun s => !p s) = (List.range n).countP (fun a => decide ¬p a = true) := by
    apply List.countP_congr
    intro s _
    simp
  omega
theorem st_lt {bs : List Bool} {s : Nat} (h : stB bs s = true) : s < bs.length := by
  unfold stB at h
  rw [List.getD_eq_getElem?_getD] at h
  cases e : bs[s]? with
  | none => rw [e] at h; cases h
  | some b => exact (List.getElem?_eq_some_iff.mp e).1
def tabB (n : Nat) (p : Nat → Bool) : List Bool := (List.range n).map p
theorem tab_len {n : Nat} {p : Nat → Bool} : (tabB n p).length = n := by simp [tabB]
theorem tab_st {n s : Nat} {p : Nat → Bool} (h : s < n) : stB (tabB n p) s = p s := by
  unfold stB tabB
  rw [List.getD_eq_getElem?_getD, List.getElem?_map, List.getElem?_range h]; rfl
theorem tab_if {n s : Nat} {p : Nat → Bool} (h : stB (tabB n p) s = true) : s < n ∧ p s = true := by
  have hs := st_lt h
  rw [tab_len] at hs
  exact ⟨hs, (tab_st hs).symm.trans h⟩
theorem tab_cnt {n : Nat} {p : Nat → Bool} : cntB (tabB n p) = (List.range n).countP p := by
  unfold cntB
  rw [tab_len]
  apply List.countP_congr
  intro s hs
  rw [tab_st (List.mem_range.mp hs)]
theorem fits_more {ns : List Str} {l k : Nat} {bs : List Bool} (h : fitsB ns l bs = true) (hk : l ≤ k) : fitsB ns k bs = true := by
  rw [fits_iff] at h ⊢
  intro u hu
  have := h u hu
  exact ⟨by omega, this.2⟩
theorem best_up {ns : List Str} {l k : Nat} (hl : 1 ≤ l) (hk : l ≤ k) : cntB (bestF ns l) ≤ cntB (bestF ns k) :=
  best_most (by omega) (best_len hl) (fits_more (best_fits hl) hk)
theorem cntB_n {bs : List Bool} : cntB bs ≤ bs.length := by
  unfold cntB
  have := List.countP_le_length (p := stB bs) (l := List.range bs.length)
  rwa [List.length_range] at this
/-! names that are new -/
def newB (ns : List Str) (i : Nat) : Bool := match ns[i]? with
  | some x => !decide (x ∈ ns.take i)
  | none => false
def dcnt (ns : List Str) : Nat := (List.range ns.length).countP (newB ns)
theorem mem_take {ns : List Str} {i : Nat} {x : Str} : x ∈ ns.take i ↔ ∃ s, s < i ∧ ns[s]? = some x := by
  constructor
  · intro h
    obtain ⟨s, hs, e⟩ := List.mem_iff_getElem.mp h
    rw [List.length_take] at hs
    refine ⟨s, by omega, ?_⟩
    rw [List.getElem_take] at e
    rw [List.getElem?_eq_getElem (by omega), e]
  · rintro ⟨s, hs, e⟩
    have : (ns.take i)[s]? = some x := by rw [List.getElem?_take, if_pos hs]; exact e
    exact List.mem_of_getElem? this
theorem new_no {ns : List Str} {s j : Nat} (h : nxt ns s = some j) : newB ns j = false := by
  obtain ⟨a1, a2, a3, a4⟩ := nxt_some h
  obtain ⟨_, y, hy⟩ := live_lt h
  unfold newB
  rw [a3, hy]
  show (!decide (y ∈ ns.take j)) = false
  rw [decide_eq_true (mem_take.mpr ⟨s, a1, hy⟩)]; rfl
theorem new_prev {ns : List Str} {j : Nat} (hj : j < ns.length) (h : newB ns j = false) : ∃ s, s < ns.length ∧ nxt ns s = some j := by
  unfold newB at h
  rw [List.getElem?_eq_getElem hj] at h
  simp only [Bool.not_eq_false', decide_eq_true_eq] at h
  obtain ⟨s, hs, e⟩ := mem_take.mp h
  obtain ⟨s0, h0, e0⟩ := prev_ex (List.getElem?_eq_getElem hj) (j - s) s (Nat.le_refl _) hs e
  exact ⟨s0, by omega, e0⟩
theorem kept_dcnt {ns : List Str} {bs : List Bool} (hl : bs.length = ns.length) (h : ∀ s, stB bs s = true → (nxt ns s).isSome = true) : cntB bs + dcnt ns ≤ ns.length := by
  have h1 : cntB bs ≤ (List.range ns.length).countP (fun s => !newB ns s) := by
    unfold cntB
    rw [hl]
    refine cnt_inj (fun s => (nxt ns s).getD 0) (fun s _ hp => ?_) (fun s s' _ _ hp hp' e => ?_)
    · obtain ⟨j, ej⟩ := Option.isSome_iff_exists.mp (h s hp)
      rw [ej]
      show j < ns.length ∧ (!newB ns j) = true
      rw [new_no ej]
      exact ⟨(nxt_some ej).2.1, rfl⟩
    · obtain ⟨j, ej⟩ := Option.isSome_iff_exists.mp (h s hp)
      obtain ⟨j', ej'⟩ := Option.isSome_iff_exists.mp (h s' hp')
      simp only [ej, ej'] at e
      have e2 : j = j' := e
      subst e2
      exact nxt_inj ej ej'
  have h2 := cnt_not (n := ns.length) (p := newB ns)
  unfold dcnt
  omega
/-- different names of a history are not more than the new ones -/
theorem nodup_dcnt {ns xs : List Str} (hn : xs.Nodup) (h : ∀ x ∈ xs, x ∈ ns) : xs.length ≤ dcnt ns := by
  have hnd : (xs.map fun x => ns.idxOf x).Nodup := by
    unfold List.Nodup
    rw [List.pairwise_map]
    refine List.Pairwise.imp_of_mem (R := (· ≠ ·)) ?_ hn
    intro x y hx hy hne e
    apply hne
    have lx : ns.idxOf x < ns.length := List.idxOf_lt_length_iff.mpr (h x hx)
    have ly : ns.idxOf y < ns.length := List.idxOf_lt_length_iff.mpr (h y hy)
    have gx : ns[ns.idxOf x] = x := List.getElem_idxOf lx
    have gy : ns[ns.idxOf y] = y := List.getElem_idxOf ly
    rw [← gx, ← gy]
    simp only [e]
  have := nodup_le (ys := (List.range ns.length).filter (newB ns)) hnd fun y hy => by
    obtain ⟨x, hx, rfl⟩ := List.mem_map.mp hy
    have lx : ns.idxOf x < ns.length := List.idxOf_lt_length_iff.mpr (h x hx)
    have gx : ns[ns.idxOf x] = x := List.getElem_idxOf lx
    refine List.mem_filter.mpr ⟨List.mem_range.mpr lx, ?_⟩
    unfold newB
    rw [List.getElem?_eq_getElem lx, gx]
    show (!decide (x ∈ ns.take (ns.idxOf x))) = true
    rw [decide_eq_false, Bool.not_false]
    intro hm
    obtain ⟨s, hs, e⟩ := mem_take.mp hm
    have := List.not_of_lt_findIdx (xs := ns) (p := fun z => z == x) (i := s) hs
    have hsl := (List.getElem?_eq_some_iff.mp e)
    obtain ⟨z1, z2⟩ := hsl
    rw [z2] at this
    simp at this
  unfold dcnt
  rw [List.countP_eq_length_filter]
  rwa [List.length_map] at this
/-- the names of the live ones, and the one asked -/
theorem live_names {ns : List Str} {bs : List Bool} {u : Nat} (hu : u < ns.length) :
    (nmAt ns u :: ((List.range u).filter fun s => stB bs s && liveB ns u s).map (nmAt ns)).Nodup := by
  refine List.nodup_cons.mpr ⟨fun hm => ?_, ?_⟩
  · obtain ⟨s, hs, e⟩ := List.mem_map.mp hm
    obtain ⟨a1, a2⟩ := List.mem_filter.mp hs
    rw [Bool.and_eq_true] at a2
    obtain ⟨j, hj, tj⟩ := live_some a2.2
    obtain ⟨_, y, hy⟩ := live_lt hj
    have hux : ns[u]? = some ns[u] := List.getElem?_eq_getElem hu
    rw [nm_at hy, nm_at hux] at e
    exact (nxt_some hj).2.2.2 u (List.mem_range.mp a1) tj (by rw [hux, hy, e])
  · unfold List.Nodup
    rw [List.pairwise_map]
    refine List.Pairwise.imp_of_mem (R := (· ≠ ·)) ?_ (range_nodup.filter _)
    intro s s' hs hs' hne e
    apply hne
    obtain ⟨a1, a2⟩ := List.mem_filter.mp hs
    obtain ⟨b1, b2⟩ := List.mem_filter.mp hs'
    rw [Bool.and_eq_true] at a2 b2
    obtain ⟨j, hj, tj⟩ := live_some a2.2
    obtain ⟨j', hj', tj'⟩ := live_some b2.2
    obtain ⟨_, y, hy⟩ := live_lt hj
    obtain ⟨_, y', hy'⟩ := live_lt hj'
    rw [nm_at hy, nm_at hy'] at e
    exact same_s (by rw [hy, hy', e]) (List.mem_range.mp a1) (List.mem_range.mp b1) hj hj' (by omega) (by omega)
def allK (ns : List Str) : List Bool := tabB ns.length fun s => (nxt ns s).isSome
theorem all_fits {ns : List Str} {l : Nat} (h : dcnt ns ≤ l) : fitsB ns l (allK ns) = true := by
  rw [fits_iff]
  intro u hu
  refine ⟨?_, fun hs => (tab_if hs).2⟩
  have hn := live_names (bs := allK ns) hu
  have := nodup_dcnt hn fun x hx => by
    rcases List.mem_cons.mp hx with e | hx
    · subst e
      rw [nm_at (List.getElem?_eq_getElem hu)]
      exact List.getElem_mem hu
    · obtain ⟨s, hs, rfl⟩ := List.mem_map.mp hx
      obtain ⟨a1, a2⟩ := List.mem_filter.mp hs
      have hs' : s < ns.length := by have := List.mem_range.mp a1; omega
      rw [nm_at (List.getElem?_eq_getElem hs')]
      exact List.getElem_mem hs'
  rw [List.length_cons, List.length_map] at this
  unfold cntF
  omega
theorem all_cnt {ns : List Str} : cntB (allK ns) + dcnt ns = ns.length := by
  have h1 := kept_dcnt (ns := ns) (bs := allK ns) tab_len fun s hs => (tab_if hs).2
  have h2 : (List.range ns.length).countP (fun s => !newB ns s) ≤ cntB (allK ns) := by
    unfold allK
    rw [tab_cnt]
    refine cnt_inj (fun j => ((List.range ns.length).find? fun s => decide (nxt ns s = some j)).getD 0) (fun j hj hp => ?_) (fun j j' hj hj' hp hp' e => ?_)
    · obtain ⟨s, hs, e⟩ := new_prev hj (by simpa using hp)
      cases ef : (List.range ns.length).find? fun s => decide (nxt ns s = some j) with
      | none =>
        have := List.find?_eq_none.mp ef s (List.mem_range.mpr hs)
        simp [e] at this
      | some s1 =>
        have q1 := List.find?_some ef
        have q2 := List.mem_of_find?_eq_some ef
        simp only [decide_eq_true_eq] at q1
        simp only [Option.getD_some]
        rw [q1]
        exact ⟨List.mem_range.mp q2, rfl⟩
    · obtain ⟨s, hs, es⟩ := new_prev hj (by simpa using hp)
      obtain ⟨s', hs', es'⟩ := new_prev hj' (by simpa using hp')
      cases ef : (List.range ns.length).find? fun s => decide (nxt ns s = some j) with
      | none =>
        have := List.find?_eq_none.mp ef s (List.mem_range.mpr hs)
        simp [es] at this
      | some s1 =>
        cases ef' : (List.range ns.length).find? fun s => decide (nxt ns s = some j') with
        | none =>
          have := List.find?_eq_none.mp ef' s' (List.mem_range.mpr hs')
          simp [es'] at this
        | some s2 =>
          have q1 := List.find?_some ef
          have q2 := List.find?_some ef'
          simp only [decide_eq_true_eq] at q1 q2
          simp only [ef, ef', Option.getD_some] at e
          rw [e, q2] at q1
          exact (Option.some.inj q1).symm
  have h3 := cnt_not (n := ns.length) (p := newB ns)
  unfold dcnt at *
  omega
theorem least_some {ns : List Str} {l : Nat} (hl : 1 ≤ l) (h : dcnt ns ≤ l) : cntB (bestF ns l) + dcnt ns = ns.length := by
  have h1 := best_most hl (tab_len (p := fun s => (nxt ns s).isSome)) (all_fits h)
  have h2 := kept_dcnt (best_len (ns := ns) hl) fun s hs => (gi_run (ns := ns) hl ns.length).sub s hs
  have h3 := all_cnt (ns := ns)
  have h4 : cntB (tabB ns.length fun s => (nxt ns s).isSome) = cntB (allK ns) := rfl
  omega
theorem least_ge {ns : List Str} {l : Nat} (hl : 1 ≤ l) : cntB (bestF ns l) + dcnt ns ≤ ns.length :=
  kept_dcnt (best_len (ns := ns) hl) fun s hs => (gi_run (ns := ns) hl ns.length).sub s hs
end L77

/-! text R3_77 -/
namespace L77
open PySem L2 PySem.Spec PyProof.Rows Zl
/-! ## one line; beginnings and ends -/
def chgB (ns : List Str) (j : Nat) : Bool := decide (j = 0 ∨ ns[j - 1]? ≠ ns[j]?)
theorem nxt_one {ns : List Str} {s : Nat} {x : Str} (h : ns[s]? = some x) (h' : ns[s + 1]? = some x) : nxt ns s = some (s + 1) := by
  obtain ⟨j, hj, h1⟩ := nxt_le h h' (Nat.lt_succ_self s)
  have := (nxt_some hj).1
  rw [hj, show j = s + 1 by omega]
theorem least_one {ns : List Str} : cntB (bestF ns 1) + (List.range ns.length).countP (chgB ns) = ns.length := by
  have hc := cnt_not (n := ns.length) (p := chgB ns)
  have fit := fits_iff.mp (best_fits (ns := ns) (l := 1) (Nat.le_refl _))
  have h1 : cntB (bestF ns 1) ≤ (List.range ns.length).countP (fun s => !chgB ns s) := by
    unfold cntB
    rw [best_len (Nat.le_refl _)]
    refine cnt_inj (fun s => s + 1) (fun s hs hp => ?_) (fun s s' _ _ _ _ e => Nat.succ.inj e)
    obtain ⟨j, ej⟩ := Option.isSome_iff_exists.mp ((fit s hs).2 hp)
    obtain ⟨a1, a2, a3, a4⟩ := nxt_some ej
    have hj : j = s + 1 := by
      by_cases z : j = s + 1
      · exact z
      · have hk := (fit (s + 1) (by omega)).1
        rw [cntF_eq] at hk
        have : 0 < (List.range (s + 1)).countP fun x => stB (bestF ns 1) x && liveB ns (s + 1) x := by
          rw [List.countP_pos_iff]
          exact ⟨s, List.mem_range.mpr (Nat.lt_succ_self s), by rw [hp, live_of ej (by omega)]; rfl⟩
        omega
    subst hj
    refine ⟨a2, ?_⟩
    unfold chgB
    rw [decide_eq_false, Bool.not_false]
    rintro (z | z)
    · omega
    · exact z (by rw [Nat.add_sub_cancel]; exact a3.symm)
  have h2 : (List.range ns.length).countP (fun s => !chgB ns s) ≤ cntB (bestF ns 1) := by
    refine Nat.le_trans ?_ (best_most (O := tabB ns.length fun s => decide (nxt ns s = some (s + 1))) (Nat.le_refl _) tab_len ?_)
    · rw [tab_cnt]
      refine cnt_inj (fun s => s - 1) (fun s hs hp => ?_) (fun s s' _ _ hp hp' e => ?_)
      · unfold chgB at hp
        simp only [Bool.not_eq_true', decide_eq_false_iff_not, not_or, Decidable.not_not] at hp
        obtain ⟨hp0, hp1⟩ := hp
        refine ⟨by omega, ?_⟩
        have e : s - 1 + 1 = s := by omega
        have hs' : ns[s]? = some ns[s] := List.getElem?_eq_getElem hs
        rw [nxt_one (hp1.trans hs') (by rw [e]; exact hs')]
        simp
      · unfold chgB at hp hp'
        simp only [Bool.not_eq_true', decide_eq_false_iff_not, not_or] at hp hp'
        have h1 := hp.1
        have h2 := hp'.1
        have e2 : s - 1 = s' - 1 := e
        omega
    · rw [fits_iff]
      intro u hu
      refine ⟨?_, fun hs => ?_⟩
      · rw [cntF_eq]
        have : (List.range u).countP (fun s => stB (tabB ns.length fun s => decide (nxt ns s = some (s + 1))) s && liveB ns u s) = 0 := by
          rw [List.countP_eq_zero]
          intro s hs z
          rw [Bool.and_eq_true] at z
          have z1 := (tab_if z.1).2
          simp only [decide_eq_true_eq] at z1
          obtain ⟨j, ej, hj⟩ := live_some z.2
          rw [z1] at ej
          cases ej
          have := List.mem_range.mp hs
          omega
        omega
      · have := (tab_if hs).2
        simp only [decide_eq_true_eq] at this
        rw [this]; rfl
  omega
/-! the next requests in a beginning, and in an end -/
theorem nxt_of {ns : List Str} {s j : Nat} (h1 : s < j) (h2 : j < ns.length) (h3 : ns[j]? = ns[s]?) (h4 : ∀ k, s < k → k < j → ns[k]? ≠ ns[s]?) : nxt ns s = some j := by
  have hj : ns[j]? = some ns[j] := List.getElem?_eq_getElem h2
  obtain ⟨i, hi, hij⟩ := nxt_le (h3.symm.trans hj) hj h1
  obtain ⟨a1, a2, a3, a4⟩ := nxt_some hi
  by_cases e : i = j
  · rw [hi, e]
  · exact absurd a3 (h4 i a1 (by omega))
theorem nxt_take {ns : List Str} {a s j : Nat} : nxt (ns.take a) s = some j ↔ nxt ns s = some j ∧ j < a := by
  constructor
  · intro h
    obtain ⟨a1, a2, a3, a4⟩ := nxt_some h
    rw [List.length_take] at a2
    rw [List.getElem?_take, List.getElem?_take, if_pos (by omega), if_pos (by omega)] at a3
    refine ⟨nxt_of a1 (by omega) a3 fun k k1 k2 => ?_, by omega⟩
    have := a4 k k1 k2
    rwa [List.getElem?_take, List.getElem?_take, if_pos (by omega), if_pos (by omega)] at this
  · rintro ⟨h, hj⟩
    obtain ⟨a1, a2, a3, a4⟩ := nxt_some h
    refine nxt_of a1 (by rw [List.length_take]; omega) ?_ fun k k1 k2 => ?_
    · rw [List.getElem?_take, List.getElem?_take, if_pos (by omega), if_pos (by omega)]; exact a3
    · rw [List.getElem?_take, List.getElem?_take, if_pos (by omega), if_pos (by omega)]; exact a4 k k1 k2
theorem nxt_drop {ns : List Str} {a s j : Nat} : nxt (ns.drop a) s = some j ↔ nxt ns (a + s) = some (a + j) := by
  constructor
  · intro h
    obtain ⟨a1, a2, a3, a4⟩ := nxt_some h
    rw [List.length_drop] at a2
    rw [List.getElem?_drop, List.getElem?_drop] at a3
    refine nxt_of (by omega) (by omega) a3 fun k k1 k2 => ?_
    have := a4 (k - a) (by omega) (by omega)
    rw [List.getElem?_drop, List.getElem?_drop] at this
    rwa [show a + (k - a) = k by omega] at this
  · intro h
    obtain ⟨a1, a2, a3, a4⟩ := nxt_some h
    refine nxt_of (by omega) (by rw [List.length_drop]; omega) ?_ fun k k1 k2 => ?_
    · rw [List.getElem?_drop, List.getElem?_drop]; exact a3
    · rw [List.getElem?_drop, List.getElem?_drop]; exact a4 (a + k) (by omega) (by omega)
def endB (ns : List Str) (a s : Nat) : Bool := match nxt ns s with
  | some j => decide (j < a)
  | none => false
theorem first_le {ns : List Str} {l a : Nat} (hl : 1 ≤ l) (ha : a ≤ ns.length) : cntB (bestF ns l) ≤ cntB (bestF (ns.take a) l) + (ns.length - a) := by
  have fit := fits_iff.mp (best_fits (ns := ns) hl)
  have hla : (ns.take a).length = a := by rw [List.length_take]; omega
  have h1 : (List.range a).countP (fun s => stB (bestF ns l) s && endB ns a s) ≤ cntB (bestF (ns.take a) l) := by
    rw [← tab_cnt]
    refine best_most hl (tab_len.trans hla.symm) (fits_iff.mpr fun u hu => ?_)
    rw [hla] at hu
    refine ⟨Nat.lt_of_le_of_lt ?_ (fit u (by omega)).1, fun hs => ?_⟩
    · rw [cntF_eq, cntF_eq]
      refine List.countP_mono_left fun s _ hs => ?_
      rw [Bool.and_eq_true] at hs ⊢
      have h1 := (tab_if hs.1).2
      rw [Bool.and_eq_true] at h1
      obtain ⟨j, ej, hj⟩ := live_some hs.2
      exact ⟨h1.1, live_of (nxt_take.mp ej).1 hj⟩
    · have h1 := (tab_if hs).2
      rw [Bool.and_eq_true] at h1
      have h2 := h1.2
      unfold endB at h2
      cases e : nxt ns u with
      | none => rw [e] at h2; cases h2
      | some j =>
        rw [e] at h2
        rw [nxt_take.mpr ⟨e, of_decide_eq_true h2⟩]; rfl
  have h2 : (List.range ns.length).countP (fun s => stB (bestF ns l) s && !endB ns a s) ≤ (List.range (ns.length - a)).countP (fun _ => true) := by
    refine cnt_inj (fun s => (nxt ns s).getD 0 - a) (fun s hs hp => ?_) (fun s s' hs hs' hp hp' e => ?_)
    · rw [Bool.and_eq_true] at hp
      obtain ⟨j, ej⟩ := Option.isSome_iff_exists.mp ((fit s hs).2 hp.1)
      have h2 := hp.2
      unfold endB at h2
      rw [ej] at h2 ⊢
      have hj : ¬ j < a := by simpa using h2
      have := (nxt_some ej).2.1
      exact ⟨by show j - a < _; omega, rfl⟩
    · rw [Bool.and_eq_true] at hp hp'
      obtain ⟨j, ej⟩ := Option.isSome_iff_exists.mp ((fit s hs).2 hp.1)
      obtain ⟨j', ej'⟩ := Option.isSome_iff_exists.mp ((fit s' hs').2 hp'.1)
      have h2 := hp.2
      have h2' := hp'.2
      unfold endB at h2 h2'
      rw [ej] at h2 e
      rw [ej'] at h2' e
      have hj : ¬ j < a := by simpa using h2
      have hj' : ¬ j' < a := by simpa using h2'
      have e' : j - a = j' - a := e
      have : j = j' := by omega
      subst this
      exact nxt_inj ej ej'
  rw [List.countP_true, List.length_range] at h2
  have h3 : cntB (bestF ns l) ≤ (List.range a).countP (fun s => stB (bestF ns l) s && endB ns a s) + (List.range ns.length).countP (fun s => stB (bestF ns l) s && !endB ns a s) := by
    have h4 : cntB (bestF ns l) ≤ (List.range ns.length).countP (fun s => stB (bestF ns l) s && endB ns a s) + (List.range ns.length).countP (fun s => stB (bestF ns l) s && !endB ns a s) := by
      unfold cntB
      rw [best_len hl]
      generalize ns.length = n
      induction n with
      | zero => simp
      | succ n ih =>
        rw [List.range_succ, List.countP_append, List.countP_append, List.countP_append]
        have : [n].countP (stB (bestF ns l)) ≤ [n].countP (fun s => stB (bestF ns l) s && endB ns a s) + [n].countP (fun s => stB (bestF ns l) s && !endB ns a s) := by
          simp only [List.countP_cons, List.countP_nil]
          cases stB (bestF ns l) n <;> cases endB ns a n <;> simp
        omega
    have h5 : (List.range ns.length).countP (fun s => stB (bestF ns l) s && endB ns a s) ≤ (List.range a).countP (fun s => stB (bestF ns l) s && endB ns a s) := by
      refine cnt_inj id (fun s hs hp => ⟨?_, hp⟩) (fun s s' _ _ _ _ e => e)
      rw [Bool.and_eq_true] at hp
      have h2 := hp.2
      unfold endB at h2
      cases e : nxt ns s with
      | none => rw [e] at h2; cases h2
      | some j =>
        rw [e] at h2
        have := of_decide_eq_true h2
        have := (nxt_some e).1
        show s < a
        omega
    omega
  omega
theorem st_app {xs ys : List Bool} {s : Nat} : stB (xs ++ ys) s = if s < xs.length then stB xs s else stB ys (s - xs.length) := by
  unfold stB
  rw [List.getD_eq_getElem?_getD, List.getD_eq_getElem?_getD, List.getD_eq_getElem?_getD, List.getElem?_append]
  split <;> rfl
theorem cntB_app {xs ys : List Bool} : cntB (xs ++ ys) = cntB xs + cntB ys := by
  rw [cntB_count, cntB_count, cntB_count, List.count_append]
theorem both_le {ns : List Str} {l a : Nat} (hl : 1 ≤ l) (ha : a ≤ ns.length) : cntB (bestF (ns.take a) l) + cntB (bestF (ns.drop a) l) ≤ cntB (bestF ns l) := by
  have hla : (ns.take a).length = a := by rw [List.length_take]; omega
  have hlb : (ns.drop a).length = ns.length - a := List.length_drop
  have fA := fits_iff.mp (best_fits (ns := ns.take a) hl)
  have fB := fits_iff.mp (best_fits (ns := ns.drop a) hl)
  have lA : (bestF (ns.take a) l).length = a := (best_len hl).trans hla
  have lB : (bestF (ns.drop a) l).length = ns.length - a := (best_len hl).trans hlb
  have nA : ∀ s, stB (bestF (ns.take a) l) s = true → ∃ j, nxt ns s = some j ∧ j < a ∧ nxt (ns.take a) s = some j := fun s hs => by
    have h1 := st_lt hs
    rw [lA] at h1
    obtain ⟨j, ej⟩ := Option.isSome_iff_exists.mp ((fA s (by omega)).2 hs)
    exact ⟨j, (nxt_take.mp ej).1, (nxt_take.mp ej).2, ej⟩
  rw [← cntB_app]
  refine best_most hl (by rw [List.length_append, lA, lB]; omega) (fits_iff.mpr fun u hu => ⟨?_, fun hs => ?_⟩)
  · by_cases hua : u < a
    · refine Nat.lt_of_le_of_lt ?_ (fA u (by omega)).1
      rw [cntF_eq, cntF_eq]
      refine List.countP_mono_left fun s hsr hs => ?_
      have := List.mem_range.mp hsr
      rw [Bool.and_eq_true, st_app, lA, if_pos (by omega)] at hs
      obtain ⟨j, e1, e2, e3⟩ := nA s hs.1
      obtain ⟨j', ej', hj'⟩ := live_some hs.2
      rw [e1] at ej'
      cases ej'
      rw [hs.1, live_of e3 hj']; rfl
    · refine Nat.lt_of_le_of_lt ?_ (fB (u - a) (by omega)).1
      rw [cntF_eq, cntF_eq]
      have key : ∀ s, (stB (bestF (ns.take a) l ++ bestF (ns.drop a) l) s && liveB ns u s) = true → a ≤ s ∧ stB (bestF (ns.drop a) l) (s - a) = true ∧ liveB (ns.drop a) (u - a) (s - a) = true := fun s hs => by
        rw [Bool.and_eq_true, st_app, lA] at hs
        obtain ⟨j, ej, hj⟩ := live_some hs.2
        by_cases hsa : s < a
        · rw [if_pos hsa] at hs
          obtain ⟨j', e1, e2, e3⟩ := nA s hs.1
          rw [ej] at e1
          cases e1
          omega
        · rw [if_neg hsa] at hs
          have := (nxt_some ej).1
          have e1 : nxt (ns.drop a) (s - a) = some (j - a) := nxt_drop.mpr (by rw [show a + (s - a) = s by omega, show a + (j - a) = j by omega]; exact ej)
          exact ⟨by omega, hs.1, live_of e1 (by omega)⟩
      refine cnt_inj (fun s => s - a) (fun s hs hp => ?_) (fun s s' _ _ hp hp' e => ?_)
      · obtain ⟨k1, k2, k3⟩ := key s hp
        exact ⟨by omega, by rw [k2, k3]; rfl⟩
      · have k1 := (key s hp).1
        have k2 := (key s' hp').1
        have e2 : s - a = s' - a := e
        omega
  · rw [st_app, lA] at hs
    by_cases hua : u < a
    · rw [if_pos hua] at hs
      obtain ⟨j, e1, _, _⟩ := nA u hs
      rw [e1]; rfl
    · rw [if_neg hua] at hs
      obtain ⟨j, ej⟩ := Option.isSome_iff_exists.mp ((fB (u - a) (by omega)).2 hs)
      have := nxt_drop.mp ej
      rw [show a + (u - a) = u by omega] at this
      rw [this]; rfl
theorem second_le {ns : List Str} {l a : Nat} (hl : 1 ≤ l) (ha : a ≤ ns.length) : cntB (bestF ns l) ≤ cntB (bestF (ns.drop a) l) + a := by
  have fit := fits_iff.mp (best_fits (ns := ns) hl)
  have hlb : (ns.drop a).length = ns.length - a := List.length_drop
  have h1 : (List.range (ns.length - a)).countP (fun s => stB (bestF ns l) (a + s)) ≤ cntB (bestF (ns.drop a) l) := by
    rw [← tab_cnt]
    refine best_most hl (tab_len.trans hlb.symm) (fits_iff.mpr fun u hu => ?_)
    rw [hlb] at hu
    refine ⟨Nat.lt_of_le_of_lt ?_ (fit (a + u) (by omega)).1, fun hs => ?_⟩
    · rw [cntF_eq, cntF_eq]
      refine cnt_inj (fun s => a + s) (fun s hs hp => ?_) (fun s s' _ _ _ _ e => by have e2 : a + s = a + s' := e; omega)
      rw [Bool.and_eq_true] at hp
      have h1 := (tab_if hp.1).2
      obtain ⟨j, ej, hj⟩ := live_some hp.2
      refine ⟨by omega, ?_⟩
      rw [h1, live_of (nxt_drop.mp ej) (by omega)]; rfl
    · have h1 := (tab_if hs).2
      obtain ⟨j, ej⟩ := Option.isSome_iff_exists.mp ((fit (a + u) (by omega)).2 h1)
      have := (nxt_some ej).1
      have e1 : nxt (ns.drop a) u = some (j - a) := nxt_drop.mpr (by rw [show a + (j - a) = j by omega]; exact ej)
      rw [e1]; rfl
  have h2 : cntB (bestF ns l) ≤ a + (List.range (ns.length - a)).countP (fun s => stB (bestF ns l) (a + s)) := by
    unfold cntB
    rw [best_len hl]
    obtain ⟨k, hk⟩ : ∃ k, ns.length = a + k := ⟨ns.length - a, by omega⟩
    rw [hk, List.range_add, List.countP_append, List.countP_map, Nat.add_sub_cancel_left]
    have := List.countP_le_length (p := stB (bestF ns l)) (l := List.range a)
    rw [List.length_range] at this
    exact Nat.add_le_add this (Nat.le_refl _)
  omega
end L77

/-! text R2_77 -/
namespace L77
open PySem L2 PySem.Spec PyProof.Rows Zl
/-! ## the hits of a device are a keeping -/
theorem in_iff {ls : Ln} {x : Str} : isIn ls x = true ↔ some x ∈ ls := by
  unfold isIn
  rw [List.contains_iff_mem]
theorem in_set {ls : Ln} {i : Nat} {x y : Str} (h : isIn (ls.set i (some x)) y = true) : y = x ∨ isIn ls y = true := by
  rw [in_iff] at h ⊢
  rcases List.mem_or_eq_of_mem_set h with h | h
  · exact .inr h
  · exact .inl (Option.some.inj h)
theorem in_none {ls : Ln} {i : Nat} {y : Str} (h : isIn (ls.set i none) y = true) : isIn ls y = true := by
  rw [in_iff] at h ⊢
  rcases List.mem_or_eq_of_mem_set h with h | h
  · exact h
  · cases h
theorem in_opt {ls : Ln} {i : Nat} {o : Option Str} {y : Str} (h : isIn (ls.set i o) y = true) : o = some y ∨ isIn ls y = true := by
  rw [in_iff] at h ⊢
  rcases List.mem_or_eq_of_mem_set h with h | h
  · exact .inr h
  · exact .inl h.symm
theorem gone_in {t : Tb} {p : St1} {y : Str} (h : goneS t p = some y) : isIn p.2 y = true := by
  unfold goneS at h
  rw [List.getD_eq_getElem?_getD] at h
  cases e : p.2[(rowOf t p.1).v]? with
  | none => rw [e] at h; cases h
  | some o =>
    rw [e] at h
    have h : o = some y := h
    subst h
    rw [in_iff]
    exact List.mem_of_getElem? e
theorem held1 {p : St1} {y : Str} : heldS [p] y = isIn p.2 y := by
  unfold heldS
  simp
theorem held2 {p q : St1} {y : Str} : heldS [p, q] y = (isIn p.2 y || isIn q.2 y) := by
  unfold heldS
  simp
theorem ask_sub {D : Dev} {st : List St1} {x y : Str} (hs : OkSt D st) (h : heldS (askS D st x) y = true) : y = x ∨ heldS st y = true := by
  cases D with
  | one t =>
    match st, hs with
    | [p], hs =>
      unfold askS at h
      dsimp only at h
      split at h
      · exact .inr h
      · rw [held1] at h ⊢
        exact in_set h
    | [], hs => cases hs
    | _ :: _ :: _, hs => cases hs with | cons _ r => cases r
  | two m t u =>
    match st, hs with
    | [p, q], hs =>
      unfold askS at h
      dsimp only at h
      rw [held2]
      split at h
      · rw [held2] at h
        rw [Bool.or_eq_true] at h ⊢
        exact .inr h
      · rename_i hx
        have fill : ∀ {z : Str}, isIn (fillS t p x).2 z = true → z = x ∨ isIn p.2 z = true := fun h => in_set h
        rw [Bool.or_eq_true]
        cases m with
        | vict =>
          unfold downS at h
          dsimp only at h
          split at h
          · rw [held2, Bool.or_eq_true] at h
            rcases h with h | h
            · rcases fill h with h | h
              · exact .inl h
              · exact .inr (.inl h)
            · rcases in_opt h with h | h
              · exact .inr (.inl (gone_in h))
              · exact .inr (.inr h)
          · split at h
            · rename_i z hz
              rw [held2, Bool.or_eq_true] at h
              rcases h with h | h
              · rcases fill h with h | h
                · exact .inl h
                · exact .inr (.inl h)
              · rcases in_set h with h | h
                · subst h; exact .inr (.inl (gone_in hz))
                · exact .inr (.inr h)
            · rw [held2, Bool.or_eq_true] at h
              rcases h with h | h
              · rcases fill h with h | h
                · exact .inl h
                · exact .inr (.inl h)
              · exact .inr (.inr h)
        | plain =>
          unfold downS at h
          dsimp only at h
          split at h
          · rw [held2, Bool.or_eq_true] at h
            rcases h with h | h
            · rcases fill h with h | h
              · exact .inl h
              · exact .inr (.inl h)
            · exact .inr (.inr h)
          · rw [held2, Bool.or_eq_true] at h
            rcases h with h | h
            · rcases fill h with h | h
              · exact .inl h
              · exact .inr (.inl h)
            · rcases in_set h with h | h
              · exact .inl h
              · exact .inr (.inr h)
        | incl =>
          unfold downS at h
          dsimp only at h
          split at h
          · rw [held2, Bool.or_eq_true] at h
            rcases h with h | h
            · rcases fill h with h | h
              · exact .inl h
              · exact .inr (.inl h)
            · exact .inr (.inr h)
          · split at h
            · split at h
              · rw [held2, Bool.or_eq_true] at h
                rcases h with h | h
                · rcases fill (in_none h) with h | h
                  · exact .inl h
                  · exact .inr (.inl h)
                · rcases in_set h with h | h
                  · exact .inl h
                  · exact .inr (.inr h)
              · rw [held2, Bool.or_eq_true] at h
                rcases h with h | h
                · rcases fill h with h | h
                  · exact .inl h
                  · exact .inr (.inl h)
                · rcases in_set h with h | h
                  · exact .inl h
                  · exact .inr (.inr h)
            · rw [held2, Bool.or_eq_true] at h
              rcases h with h | h
              · rcases fill h with h | h
                · exact .inl h
                · exact .inr (.inl h)
              · rcases in_set h with h | h
                · exact .inl h
                · exact .inr (.inr h)
    | [], hs => cases hs
    | [_], hs => cases hs with | cons _ r => cases r
    | _ :: _ :: _ :: _, hs => cases hs with | cons _ r => cases r with | cons _ r => cases r
theorem fill_in {t : Tb} {p : St1} {x : Str} (ht : OkT t) (hp : OkP t p) : isIn (fillS t p x).2 x = true := by
  rw [in_iff]
  have := (row_ok ht hp.1).1
  have h2 := hp.2
  exact List.mem_of_getElem? (i := (rowOf t p.1).v) (by
    show (p.2.set _ (some x))[_]? = _
    rw [List.getElem?_set_self (by omega)])
theorem ask_self {D : Dev} {st : List St1} {x : Str} (hD : OkV D) (hs : OkSt D st) : heldS (askS D st x) x = true := by
  cases D with
  | one t =>
    match st, hs with
    | [p], hs =>
      have ht : OkT t := hD t (by simp [Dev.tabs])
      have hp : OkP t p := by cases hs with | cons a _ => exact a
      unfold askS
      dsimp only
      split
      · rename_i hx
        rw [held1]; exact hx
      · rw [held1]; exact fill_in ht hp
    | [], hs => cases hs
    | _ :: _ :: _, hs => cases hs with | cons _ r => cases r
  | two m t u =>
    match st, hs with
    | [p, q], hs =>
      have ht : OkT t := hD t (by simp [Dev.tabs])
      have hu : OkT u := hD u (by simp [Dev.tabs])
      have hp : OkP t p := by cases hs with | cons a _ => exact a
      have hq : OkP u q := by cases hs with | cons _ r => cases r with | cons a _ => exact a
      have fi := fill_in (x := x) ht hp
      unfold askS
      dsimp only
      split
      · rename_i hx
        rw [held2]
        show (isIn p.2 x || _) = true
        rw [hx]; rfl
      · cases m with
        | vict =>
          unfold downS
          dsimp only
          split
          · rw [held2, fi]; rfl
          · split
            · rw [held2, fi]; rfl
            · rw [held2, fi]; rfl
        | plain =>
          unfold downS
          dsimp only
          split
          · rw [held2, fi]; rfl
          · rw [held2, fi]; rfl
        | incl =>
          unfold downS
          dsimp only
          split
          · rw [held2, fi]; rfl
          · have fq := fill_in (x := x) hu hq
            split
            · split
              · rw [held2, fq, Bool.or_true]
              · rw [held2, fq, Bool.or_true]
            · rw [held2, fq, Bool.or_true]
    | [], hs => cases hs
    | [_], hs => cases hs with | cons _ r => cases r
    | _ :: _ :: _ :: _, hs => cases hs with | cons _ r => cases r with | cons _ r => cases r
def linesN (D : Dev) : Nat := (D.tabs.map (·.l)).foldl (· + ·) 0
theorem few_held {D : Dev} {st : List St1} {xs : List Str} (hs : OkSt D st) (hn : xs.Nodup) (h : ∀ x ∈ xs, heldS st x = true) : xs.length ≤ linesN D := by
  have key : ∀ {ls : Ln}, (∀ x ∈ xs, some x ∈ ls) → xs.length ≤ ls.length := fun {ls} hx => by
    have hnd : (xs.map some).Nodup := by
      unfold List.Nodup
      rw [List.pairwise_map]
      exact hn.imp fun hne e => hne (Option.some.inj e)
    have := nodup_le (ys := ls) hnd fun y hy => by
      obtain ⟨x, hx', rfl⟩ := List.mem_map.mp hy
      exact hx x hx'
    rwa [List.length_map] at this
  cases D with
  | one t =>
    match st, hs with
    | [p], hs =>
      have hp : OkP t p := by cases hs with | cons a _ => exact a
      have := key (ls := p.2) fun x hx => by
        have := h x hx
        rw [held1, in_iff] at this
        exact this
      have h2 := hp.2
      show _ ≤ 0 + t.l
      omega
    | [], hs => cases hs
    | _ :: _ :: _, hs => cases hs with | cons _ r => cases r
  | two m t u =>
    match st, hs with
    | [p, q], hs =>
      have hp : OkP t p := by cases hs with | cons a _ => exact a
      have hq : OkP u q := by cases hs with | cons _ r => cases r with | cons a _ => exact a
      have := key (ls := p.2 ++ q.2) fun x hx => by
        have := h x hx
        rw [held2, Bool.or_eq_true, in_iff, in_iff] at this
        exact List.mem_append.mpr this
      have h2 := hp.2
      have h3 := hq.2
      rw [List.length_append] at this
      show _ ≤ 0 + t.l + u.l
      omega
    | [], hs => cases hs
    | [_], hs => cases hs with | cons _ r => cases r
    | _ :: _ :: _ :: _, hs => cases hs with | cons _ r => cases r with | cons _ r => cases r
/-! runs -/
theorem run_at {D : Dev} : ∀ {xs : List Str} {p : List St1} {j : Nat} {y : Str}, xs[j]? = some y → stB (runS D p xs) j = heldS (endS D p (xs.take j)) y
  | [], _, j, y, h => by simp at h
  | x :: xs, p, 0, y, h => by
    simp at h; subst h; rfl
  | x :: xs, p, j + 1, y, h => by
    have := run_at (D := D) (xs := xs) (p := askS D p x) (j := j) (y := y) (by simpa using h)
    unfold runS
    rw [List.take_succ_cons]
    unfold endS
    rw [← this]
    unfold stB
    simp
def stAt (D : Dev) (ns : List Str) (t : Nat) : List St1 := endS D (startS D) (ns.take t)
theorem stAt_ok {D : Dev} (hD : OkV D) {ns : List Str} {t : Nat} : OkSt D (stAt D ns t) := end_ok hD (start_ok hD)
theorem stAt_succ {D : Dev} {ns : List Str} {t : Nat} {x : Str} (h : ns[t]? = some x) : stAt D ns (t + 1) = askS D (stAt D ns t) x := by
  unfold stAt
  rw [show ns.take (t + 1) = ns.take t ++ [x] by rw [List.take_add_one, h]; rfl, endS_snoc]
theorem start_none {D : Dev} {ns : List Str} {y : Str} : heldS (stAt D ns 0) y = false := by
  unfold stAt
  rw [List.take_zero]
  show heldS (startS D) y = false
  unfold heldS startS
  rw [List.any_eq_false]
  intro p hp
  obtain ⟨t, _, rfl⟩ := List.mem_map.mp hp
  unfold startP
  intro z
  rw [in_iff] at z
  have := List.eq_of_mem_replicate z
  cases this
theorem held_was {D : Dev} (hD : OkV D) {ns : List Str} {y : Str} : ∀ t, t ≤ ns.length → heldS (stAt D ns t) y = true → ∃ s, s < t ∧ ns[s]? = some y
  | 0, _, h => by rw [start_none] at h; cases h
  | t + 1, ht, h => by
    have hx : ns[t]? = some ns[t] := List.getElem?_eq_getElem (by omega)
    rw [stAt_succ hx] at h
    rcases ask_sub (stAt_ok hD) h with e | h
    · subst e; exact ⟨t, Nat.lt_succ_self _, hx⟩
    · obtain ⟨s, h1, h2⟩ := held_was hD t (by omega) h
      exact ⟨s, by omega, h2⟩
theorem held_back {D : Dev} (hD : OkV D) {ns : List Str} {y : Str} {s j : Nat} (hj : j ≤ ns.length) (h : heldS (stAt D ns j) y = true) (hne : ∀ k, s < k → k < j → ns[k]? ≠ some y) : ∀ d u, j - u = d → s < u → u ≤ j → heldS (stAt D ns u) y = true
  | 0, u, hd, h1, h2 => by rw [show u = j by omega]; exact h
  | d + 1, u, hd, h1, h2 => by
    have hu : heldS (stAt D ns (u + 1)) y = true := held_back hD hj h hne d (u + 1) (by omega) (by omega) (by omega)
    have hx : ns[u]? = some ns[u] := List.getElem?_eq_getElem (by omega)
    rw [stAt_succ hx] at hu
    rcases ask_sub (stAt_ok hD) hu with e | h
    · subst e; exact absurd hx (hne u h1 (by omega))
    · exact h
def toldS (D : Dev) (ns : List Str) : List Bool := runS D (startS D) ns
def keptS (D : Dev) (ns : List Str) : List Bool := tabB ns.length fun s => match nxt ns s with
  | some j => stB (toldS D ns) j
  | none => false
theorem kept_if {D : Dev} {ns : List Str} {s : Nat} (h : stB (keptS D ns) s = true) : ∃ j, nxt ns s = some j ∧ stB (toldS D ns) j = true := by
  have := (tab_if h).2
  cases e : nxt ns s with
  | none => rw [e] at this; cases this
  | some j => rw [e] at this; exact ⟨j, rfl, this⟩
theorem told_len {D : Dev} {ns : List Str} : (toldS D ns).length = ns.length := runS_len
theorem dev_fits {D : Dev} (hD : OkV D) {ns : List Str} : fitsB ns (linesN D) (keptS D ns) = true := by
  rw [fits_iff]
  intro u hu
  refine ⟨?_, fun hs => ?_⟩
  · have hx : ns[u]? = some ns[u] := List.getElem?_eq_getElem hu
    have hn := live_names (bs := keptS D ns) hu
    have := few_held (D := D) (st := stAt D ns (u + 1)) (stAt_ok hD) hn fun y hy => by
      rcases List.mem_cons.mp hy with e | hy
      · rw [e, nm_at hx, stAt_succ hx]
        exact ask_self hD (stAt_ok hD)
      · obtain ⟨s, hs, rfl⟩ := List.mem_map.mp hy
        obtain ⟨a1, a2⟩ := List.mem_filter.mp hs
        rw [Bool.and_eq_true] at a2
        obtain ⟨j, ej, hj⟩ := kept_if a2.1
        obtain ⟨j', ej', lj⟩ := live_some a2.2
        rw [ej] at ej'
        cases ej'
        obtain ⟨_, y, hy⟩ := live_lt ej
        obtain ⟨b1, b2, b3, b4⟩ := nxt_some ej
        rw [nm_at hy]
        have su := List.mem_range.mp a1
        have hj2 : heldS (stAt D ns j) y = true := by
          have := run_at (D := D) (p := startS D) (b3.trans hy)
          unfold toldS at hj
          rw [hj] at this
          exact this.symm
        exact held_back hD (by omega) hj2 (fun k k1 k2 z => b4 k k1 k2 (z.trans hy.symm)) (j - (u + 1)) (u + 1) rfl (by omega) (by omega)
    rw [List.length_cons, List.length_map] at this
    unfold cntF
    omega
  · obtain ⟨j, ej, _⟩ := kept_if hs
    rw [ej]; rfl
theorem dev_cnt {D : Dev} (hD : OkV D) {ns : List Str} : cntB (keptS D ns) = cntB (toldS D ns) := by
  apply Nat.le_antisymm
  · unfold keptS
    rw [tab_cnt]
    unfold cntB
    rw [told_len]
    refine cnt_inj (fun s => (nxt ns s).getD 0) (fun s hs hp => ?_) (fun s s' _ _ hp hp' e => ?_)
    · cases ej : nxt ns s with
      | none => rw [ej] at hp; cases hp
      | some j => rw [ej] at hp; exact ⟨(nxt_some ej).2.1, hp⟩
    · cases ej : nxt ns s with
      | none => rw [ej] at hp; cases hp
      | some j =>
        cases ej' : nxt ns s' with
        | none => rw [ej'] at hp'; cases hp'
        | some j' =>
          simp only [ej, ej'] at e
          have e : j = j' := e
          subst e
          exact nxt_inj ej ej'
  · unfold keptS
    rw [tab_cnt]
    unfold cntB
    rw [told_len]
    have prev : ∀ j, j < ns.length → stB (toldS D ns) j = true → ∃ s, s < ns.length ∧ nxt ns s = some j := fun j hj hp => by
      have hx : ns[j]? = some ns[j] := List.getElem?_eq_getElem hj
      have h1 := run_at (D := D) (p := startS D) hx
      unfold toldS at hp
      rw [hp] at h1
      obtain ⟨s, hs, es⟩ := held_was hD j (by omega) h1.symm
      obtain ⟨s0, h0, e0⟩ := prev_ex hx (j - s) s (Nat.le_refl _) hs es
      exact ⟨s0, by omega, e0⟩
    have fnd : ∀ j, j < ns.length → stB (toldS D ns) j = true → ∃ s, (List.range ns.length).find? (fun s => decide (nxt ns s = some j)) = some s ∧ nxt ns s = some j ∧ s < ns.length := fun j hj hp => by
      obtain ⟨s, hs, es⟩ := prev j hj hp
      cases ef : (List.range ns.length).find? fun s => decide (nxt ns s = some j) with
      | none =>
        have := List.find?_eq_none.mp ef s (List.mem_range.mpr hs)
        simp [es] at this
      | some s1 =>
        have q1 := List.find?_some ef
        simp only [decide_eq_true_eq] at q1
        exact ⟨s1, rfl, q1, List.mem_range.mp (List.mem_of_find?_eq_some ef)⟩
    refine cnt_inj (fun j => ((List.range ns.length).find? fun s => decide (nxt ns s = some j)).getD 0) (fun j hj hp => ?_) (fun j j' hj hj' hp hp' e => ?_)
    · obtain ⟨s, e1, e2, e3⟩ := fnd j hj hp
      simp only [e1, Option.getD_some]
      rw [e2]
      exact ⟨e3, hp⟩
    · obtain ⟨s, e1, e2, e3⟩ := fnd j hj hp
      obtain ⟨s', f1, f2, f3⟩ := fnd j' hj' hp'
      simp only [e1, f1, Option.getD_some] at e
      rw [e, f2] at e2
      exact (Option.some.inj e2).symm
theorem dev_least {D : Dev} (hD : OkV D) (hl : 1 ≤ linesN D) {ns : List Str} : cntB (toldS D ns) ≤ cntB (bestF ns (linesN D)) := by
  rw [← dev_cnt hD]
  exact best_most hl tab_len (dev_fits hD)
end L77

/-! text X1_77 -/
namespace L77
open PySem L2 PySem.Spec PyProof.Rows Zl
/-! ## count_lines -/
theorem cut_one {D : Dev} : Zl.cutD (Dv.str D.mode :: D.tabs.map tabD) (some 1) none = D.tabs.map tabD := by
  unfold Zl.cutD
  simp [HT.sIx]
  exact List.take_of_length_le (by simp)
def linD : Dv → Dv
  | .tup (x :: _) => x
  | _ => .non
theorem lines_sum : ∀ ts : List Tb, intsD ((ts.map tabD).map linD) = some (ts.map fun t => ((t.l : Nat) : Int))
  | [] => rfl
  | t :: ts => by
    show (match intsD ((ts.map tabD).map linD) with | some ns => some (((t.l : Nat) : Int) :: ns) | none => none) = _
    rw [lines_sum ts]; rfl
theorem sum_lines {D : Dev} : ((D.tabs.map fun t => ((t.l : Nat) : Int)).sum : Int) = ((linesN D : Nat) : Int) := by
  cases D with
  | one t => show ((t.l : Nat) : Int) + 0 = ((0 + t.l : Nat) : Int); omega
  | two m t u => show ((t.l : Nat) : Int) + (((u.l : Nat) : Int) + 0) = ((0 + t.l + u.l : Nat) : Int); omega
theorem tabs2 {D : Dev} : D.tabs.length ≤ 2 := by cases D <;> simp [Dev.tabs]
theorem sp_lineN {D : Dev} {M : Mem} (hD : OkV D) : Wp (m_count_lines [devD D] M) fun d M' => d = .int (linesN D : Nat) ∧ Kp NoW M M' := by
  refine wp_fn rfl [some (devD D), none] rfl ?_
  unfold b_count_lines
  array_get_dec
  refine (sp_checkDevice hD).go fun _ M1 k1 => ?_
  array_get_dec
  refine wq_map linD ?_
  array_get_dec
  refine wp_slT ?_
  rw [cut_one]
  array_get_dec
  refine k_mapT (size_le (by have := tabs2 (D := D); simp; omega)) (fun x hx M' k' => ?_) ?_
  · obtain ⟨t, ht, rfl⟩ := List.mem_map.mp hx
    array_get_dec
    exact wp_ev (a := .int (t.l : Nat)) (M' := M') rfl ⟨rfl, .refl⟩
  intro n2 M2 e2 l2 k2 g2
  array_get_dec
  refine wp_ev (a := .int (linesN D : Nat)) (M' := M2) ?_ ?_
  · unfold sumD
    simp only [g2]
    rw [lines_sum]
    simp only
    rw [sum_lines]
  array_get_dec
  exact ⟨rfl, by array_mem_dec⟩
/-! ## Cache -/
def cacF (D : Dev) (b : Nat) (h m : Nat) : List (Str × Dv) := [("pattern", devD D), ("box", .loc b), ("hit_number", .int (h : Nat)), ("miss_number", .int (m : Nat))]
structure CacIs (D : Dev) (c b s r : Nat) (ls : List Nat) (st : List St1) (h m : Nat) (M : Mem) : Prop where
  hc : M[c]? = some (.ins 1 (cacF D b h m))
  bx : BoxIs D b s r ls st M
  cb : c ≠ b
  cs : c ≠ s
  cr : c ≠ r
  cl : c ∉ ls
theorem sp_checkName {x : Str} {M : Mem} (h : okName x = true) : Wp (m_check_name [.str x] M) fun d M' => Kp NoW M M' := by
  refine wp_fn rfl [some (.str x)] rfl ?_
  unfold b_check_name
  array_get_dec
  refine (sp_name h).go ?_
  rintro _ M1 ⟨rfl, k1⟩
  array_get_dec
  refine ki_of (c := false) rfl ?_
  array_get_dec
  exact k1
theorem sp_cinit {D : Dev} {c : Nat} {M : Mem} (hc : M[c]? = some (.ins 1 [])) (hD : OkV D) :
    Wp (m_Cache_init [.loc c, devD D] M) (kNon fun M' => (∃ b s r ls, CacIs D c b s r ls (startS D) 0 0 M' ∧ M.length ≤ b ∧ M.length ≤ s ∧ M.length ≤ r ∧ ∀ l ∈ ls, M.length ≤ l) ∧ Kp (At c) M M') := by
  have hcl := lt_of hc
  refine wp_fn rfl [some (.loc c), some (devD D)] rfl ?_
  unfold b_Cache_init
  array_get_dec
  refine (sp_checkDevice hD).go fun _ M1 k1 => ?_
  have hk1 := k1.1
  array_get_dec
  rename_i M2 g2 k2 l2 n3 M3 e3 g3 k3 l3
  refine (sp_init g3 hD).go ?_
  rintro _ M4 ⟨rfl, ⟨s, r, ls, bx, q1, q2, q3⟩, k4⟩
  have z := bx.lt
  have hk4 := k4.1
  refine ⟨rfl, ?_⟩
  array_get_dec
  rename_i M5 g5 k5 l5 M6 g6 k6 l6 M7 g7 k7 l7
  refine ⟨⟨n3, s, r, ls, ⟨g7, ?_, by omega, by omega, by omega, fun hm => ?_⟩, by omega, by omega, by omega, fun l hl => ?_⟩, ?_⟩
  · have w : ∀ {W : Nat → Prop} {Ma Mb : Mem}, Kp W Ma Mb → (∀ n, W n → n = c) → BoxIs D n3 s r ls (startS D) Ma → BoxIs D n3 s r ls (startS D) Mb := fun {W Ma Mb} k hw hb => by
      refine ⟨hb.at_.kp k (fun h => ?_) (fun h => ?_) (fun h => ?_) (fun l hl h => ?_), hb.len, hb.ok⟩
      · have := hw _ h; omega
      · have := hw _ h; omega
      · have := hw _ h; omega
      · have := hw _ h; have := q3 l hl; omega
    exact w k7 (fun _ h => h) (w k6 (fun _ h => h) (w k5 (fun _ h => h) bx))
  · have := q3 c hm; omega
  · have := q3 l hl; omega
  · have kk : Kp (At c) M M4 := by
      refine ((((Kp.refl (W := At c)).trN k1).trans k2 fun n _ h => h).trN k3).trans k4 fun n hn h => ?_
      have : n = n3 := h
      omega
    exact ((kk.trans k5 fun n _ h => h).trans k6 fun n _ h => h).trans k7 fun n _ h => h
end L77

/-! text X2_77 -/
namespace L77
open PySem L2 PySem.Spec PyProof.Rows Zl
/-! ## Cache.request -/
abbrev CW (c s : Nat) (ls : List Nat) : Nat → Prop := fun n => n = c ∨ n = s ∨ n ∈ ls
section
variable {D : Dev} {c b s r : Nat} {ls : List Nat} {st : List St1} {h m : Nat} {M : Mem} {x : Str}
theorem CacIs.kp {M' : Mem} {W : Nat → Prop} (q : CacIs D c b s r ls st h m M) (k : Kp W M M') (wc : ¬ W c) (wb : ¬ W b) (ws : ¬ W s) (wr : ¬ W r) (wl : ∀ l ∈ ls, ¬ W l) : CacIs D c b s r ls st h m M' :=
  ⟨k.at q.hc wc, ⟨q.bx.at_.kp k wb ws wr wl, q.bx.len, q.bx.ok⟩, q.cb, q.cs, q.cr, q.cl⟩
theorem CacIs.kpN {M' : Mem} (q : CacIs D c b s r ls st h m M) (k : Kp NoW M M') : CacIs D c b s r ls st h m M' := q.kp k id id id id fun _ _ => id
theorem sp_note {v : Bool} (q : CacIs D c b s r ls st h m M) : Wp (m_Cache_note_answer [.loc c, .bl v] M) fun d M' => d = .bl v ∧ CacIs D c b s r ls st (if v then h + 1 else h) (if v then m else m + 1) M' ∧ Kp (At c) M M' := by
  have hc := q.hc
  have z := q.bx.lt
  have keep : ∀ {M' : Mem} {h' m' : Nat}, M'[c]? = some (.ins 1 (cacF D b h' m')) → Kp (At c) M M' → CacIs D c b s r ls st h' m' M' := fun {M' h' m'} g k =>
    ⟨g, ⟨q.bx.at_.kp k (fun e => q.cb e.symm) (fun e => q.cs e.symm) (fun e => q.cr e.symm) (fun l hl e => q.cl (by have e' : l = c := e; rw [← e']; exact hl)), q.bx.len, q.bx.ok⟩, q.cb, q.cs, q.cr, q.cl⟩
  refine wp_fn rfl [some (.loc c), some (.bl v)] rfl ?_
  unfold b_Cache_note_answer
  cases v with
  | true =>
    array_get_dec
    refine wq_fldaug ?_
    array_get_dec
    refine ⟨c, _, (h : Nat), rfl, hc, rfl, ?_⟩
    array_get_dec
    refine ⟨1, _, rfl, hc, by show 4 < 1000; decide, fun M1 g1 k1 l1 => ?_⟩
    array_get_dec
    exact ⟨rfl, keep g1 k1, k1⟩
  | false =>
    array_get_dec
    refine wq_fldaug ?_
    array_get_dec
    refine ⟨c, _, (m : Nat), rfl, hc, rfl, ?_⟩
    array_get_dec
    refine ⟨1, _, rfl, hc, by show 4 < 1000; decide, fun M1 g1 k1 l1 => ?_⟩
    array_get_dec
    exact ⟨rfl, keep g1 k1, k1⟩
theorem sp_request (hD : OkV D) (q : CacIs D c b s r ls st h m M) (hx : okName x = true) :
    Wp (m_Cache_request [.loc c, .str x] M) fun d M' => d = .bl (heldS st x) ∧ CacIs D c b s r ls (askS D st x) (if heldS st x then h + 1 else h) (if heldS st x then m else m + 1) M' ∧ Kp (CW c s ls) M M' := by
  refine wp_fn rfl [some (.loc c), some (.str x)] rfl ?_
  unfold b_Cache_request
  array_get_dec
  refine (sp_checkName hx).go fun _ M1 k1 => ?_
  have q1 := q.kpN k1
  have hc := q1.hc
  have hb := q1.bx.at_.hb
  array_get_dec
  refine (sp_ask hD q1.bx).go ?_
  rintro _ M2 ⟨rfl, b2, k2⟩
  have q2 : CacIs D c b s r ls (askS D st x) h m M2 := ⟨k2.at hc (by
    rintro (e | e)
    · exact q.cs e
    · exact q.cl e), b2, q.cb, q.cs, q.cr, q.cl⟩
  array_get_dec
  refine (sp_note q2).go ?_
  rintro _ M3 ⟨rfl, q3, k3⟩
  array_get_dec
  refine ⟨rfl, q3, ?_⟩
  refine (((Kp.refl (W := CW c s ls)).trN k1).trans k2 ?_).trans k3 ?_
  · rintro n _ (e | e)
    · exact .inr (.inl e)
    · exact .inr (.inr e)
  · intro n _ e
    exact .inl e
theorem sp_cmisses (q : CacIs D c b s r ls st h m M) : Wp (m_Cache_misses [.loc c] M) fun d M' => d = .int (m : Nat) ∧ M' = M := by
  have hc := q.hc
  refine wp_fn rfl [some (.loc c)] rfl ?_
  unfold b_Cache_misses
  array_get_dec
  exact ⟨rfl, rfl⟩
/-- what is counted -/
def hitB (bs : List Bool) : Nat := bs.countP fun b => b
theorem hit_snoc {bs : List Bool} {v : Bool} : hitB (bs ++ [v]) = if v then hitB bs + 1 else hitB bs := by
  unfold hitB
  rw [List.countP_append]
  cases v <;> simp
theorem miss_snoc {bs : List Bool} {v : Bool} : missB (bs ++ [v]) = if v then missB bs else missB bs + 1 := by
  unfold missB
  rw [List.countP_append]
  cases v <;> simp
/-- [box.request(who) for who in row] -/
theorem lc_request {ns : List Str} {env : En} {e1 e6 e8 : Nat} {q : QE} (hD : OkV D) (hn : ns.length ≤ 2000) (hok : ∀ x ∈ ns, okName x = true) (h1 : env[e1]? = some (some (.tup (strsD ns)))) (h6 : env[e6]? = some (some (.loc c))) (h68 : e6 ≠ e8) (h8 : e8 < env.length)
    (h0 : CacIs D c b s r ls (startS D) 0 0 M) (hq : ∀ n M', n = M.length → M'[n]? = some (.lst (blsOf (toldS D ns))) → CacIs D c b s r ls (endS D (startS D) ns) (hitB (toldS D ns)) (missB (toldS D ns)) M' → Kp (CW c s ls) M M' → q (.loc n) M') :
    Wp (fComp (fSrc (fV e1)) [e8] (gN e8) fYes (fMeth 1 "request" 2 m_Cache_request (fV e6) (fCons (fV e8) fNil)) env M) q := by
  have hl : (strsD ns).length = ns.length := by simp [strsD]
  have z := h0.bx.lt
  have zc := lt_of h0.hc
  refine wp_lcI (fun n i acc M' => M'[n]? = some (.lst acc) ∧ acc = blsOf (runS D (startS D) (ns.take i)) ∧ CacIs D c b s r ls (endS D (startS D) (ns.take i)) (hitB (runS D (startS D) (ns.take i))) (missB (runS D (startS D) (ns.take i))) M' ∧ Kp (CW c s ls) M M' ∧ n = M.length) ?_
  refine wq_src (wp_var h1 (k_srcT ?_))
  refine ⟨fun i acc M' hh => hh.1, ⟨at_new, rfl, h0.kpN (.app _), by array_mem_dec, rfl⟩, ?_, ?_⟩
  · rintro i acc M' hi ⟨c1, c2, c3, c4, c5⟩
    have hi' : i < (strsD ns).length := hi
    have hi2 : i < ns.length := by omega
    have etk : ns.take (i + 1) = ns.take i ++ [ns[i]] := by rw [List.take_add_one, List.getElem?_eq_getElem hi2]; rfl
    refine ⟨.str ns[i], by show some (strsD ns)[i]? = _; simp [strsD, hi2], ?_⟩
    have f6 : ((wipeE env [e8]).set e8 (some (Dv.str ns[i])))[e6]? = some (some (.loc c)) := by
      rw [List.getElem?_set_ne (fun e => h68 e.symm)]
      show (env.set e8 none)[e6]? = _
      rw [List.getElem?_set_ne (fun e => h68 e.symm)]; exact h6
    have f8 : ((wipeE env [e8]).set e8 (some (Dv.str ns[i])))[e8]? = some (some (.str ns[i])) := by
      rw [List.getElem?_set_self]
      show e8 < (env.set e8 none).length
      rw [List.length_set]; exact h8
    refine wq_meth' (wp_var f6 (k_ins c3.hc rfl ?_))
    refine wp_cons (wp_var f8 (wp_nil (k_len rfl (k_pos ?_))))
    refine (sp_request hD c3 (hok _ (List.getElem_mem hi2))).go ?_
    rintro _ M5 ⟨rfl, b5, k5⟩
    have nw : ¬ CW c s ls M.length := by
      rintro (e | e | e)
      · omega
      · have := z.2.1; omega
      · have := z.2.2.2 _ e; omega
    have cc := k5.at c1 nw
    refine ⟨acc, cc, ?_, at_set cc, ?_, ?_, ?_, c5⟩
    · rw [c2, blsOf, List.length_map, runS_len, List.length_take]; exact size_lt (by omega)
    · rw [etk, runS_snoc, c2]; unfold blsOf; rw [List.map_append]; rfl
    · rw [etk, endS_snoc, runS_snoc, hit_snoc, miss_snoc]
      refine b5.kp (Kp.set (W := At M.length) fun _ => rfl) ?_ ?_ ?_ ?_ ?_
      · simp only [At]; omega
      · have := z.1; simp only [At]; omega
      · have := z.2.1; simp only [At]; omega
      · have := z.2.2.1; simp only [At]; omega
      · intro l hl; have := z.2.2.2 l hl; simp only [At]; omega
    · refine (c4.tr k5).trans (Kp.set (W := At M.length) fun _ => rfl) ?_
      intro n hn e
      have : n = M.length := e
      omega
  · rintro acc M' ⟨c1, c2, c3, c4, c5⟩
    have e1 : ns.take (strsD ns).length = ns := by rw [hl, List.take_length]
    have c2 : acc = blsOf (runS D (startS D) (ns.take (strsD ns).length)) := c2
    have c3 : CacIs D c b s r ls (endS D (startS D) (ns.take (strsD ns).length)) (hitB (runS D (startS D) (ns.take (strsD ns).length))) (missB (runS D (startS D) (ns.take (strsD ns).length))) M' := c3
    rw [e1] at c2 c3
    subst c2
    exact ⟨by show some (strsD ns)[(strsD ns).length]? = _; simp, hq _ M' c5 c1 c3 c4⟩
end
end L77

/-! text S2_77 -/
namespace L77
open PySem L2 PySem.Spec PyProof.Rows Zl
/-! names, read and shown -/
theorem sm_name {k : Nat} {x : Str} (h : okName x = true) : Sm k 6 (.str x) := by
  unfold okName at h
  rw [Bool.and_eq_true, Bool.and_eq_true, decide_eq_true_eq, decide_eq_true_eq, List.all_eq_true] at h
  obtain ⟨⟨h1, h2⟩, h3⟩ := h
  have low : ∀ c ∈ x.cps.toList, c < 128 := by
    intro c hc
    have := of_decide_eq_true (h3 c hc)
    have all : ∀ d ∈ ("abcdefghijklmnopqrstuvwxyz" : Str).cps.toList, d < 128 := by decide
    exact all c this
  refine ⟨?_, Nat.zero_le _, rfl, rfl, ?_, h2⟩
  · unfold PyData.canLay0
    show (x.cps.all (· < 0x110000)) = true
    rw [← Array.all_toList, List.all_eq_true]
    intro c hc
    exact decide_eq_true (Nat.lt_of_lt_of_le (low c hc) (by decide))
  · unfold PyData.leavesShort
    rw [List.all_eq_true]
    intro c hc
    exact decide_eq_true (Nat.lt_of_lt_of_le (low c hc) (by decide))
def strsP (ns : List Str) : List PyData := ns.map .str
theorem rd_strs {M : Mem} {n : Nat} : ∀ ns : List Str, rdL (rd M n) (strsD ns) = some (strsP ns)
  | [] => rfl
  | x :: ns => rdL_cons (by cases n <;> rfl) (rd_strs ns)
theorem smA_strs {k : Nat} {ns : List Str} (h : ∀ x ∈ ns, okName x = true) : SmA k (7 * ns.length) (strsP ns) :=
  (smA_all (k := k) (n := 6) fun p hp => by obtain ⟨x, hx, rfl⟩ := List.mem_map.mp hp; exact sm_name (h x hx)).mono (Nat.le_refl _) (by simp [strsP])
end L77

/-! text X3_77 -/
namespace L77
open PySem L2 PySem.Spec PyProof.Rows Zl
/-! ## _law_device_right -/
theorem miss_cnt {bs : List Bool} : missB bs + cntB bs = bs.length := by
  rw [cntB_count]
  unfold missB
  induction bs with
  | nil => rfl
  | cons b bs ih =>
    cases b <;> simp <;> omega
def keptD (told : List Bool) : Dv → Dv
  | .int j => .bl (stB told j.toNat)
  | _ => .bl false
theorem kept_map {D : Dev} {ns : List Str} : (nxD ns).map (keptD (toldS D ns)) = blsT (keptS D ns) := by
  unfold nxD keptS tabB blsT
  rw [List.map_map, List.map_map]
  apply List.map_congr_left
  intro s _
  show keptD (toldS D ns) (optD (nxt ns s)) = .bl (match nxt ns s with | some j => stB (toldS D ns) j | none => false)
  cases nxt ns s with
  | none => rfl
  | some j => rfl
theorem told_at {D : Dev} {ns : List Str} {j : Nat} (h : j < ns.length) : (blsOf (toldS D ns))[j]? = some (.bl (stB (toldS D ns) j)) := by
  unfold blsOf
  have hj : j < (toldS D ns).length := by rw [told_len]; exact h
  rw [List.getElem?_map, List.getElem?_eq_getElem hj, st_at hj]; rfl
theorem sp_devRight {D : Dev} {ns : List Str} {M : Mem} (hD : OkV D) (h1 : 1 ≤ linesN D) (h4 : linesN D ≤ 4) (hn : ns.length ≤ 200) (hok : ∀ x ∈ ns, okName x = true) :
    Wp (m__law_device_right [devD D, .tup (strsD ns)] M) fun d M' => d = .bl true ∧ Kp NoW M M' := by
  have hl : (strsD ns).length = ns.length := by simp [strsD]
  refine wp_fn rfl [some (devD D), some (.tup (strsD ns)), none, none, none, none, none, none, none] rfl ?_
  unfold b__law_device_right
  array_get_dec
  refine (sp_lineN hD).go ?_
  rintro _ M1 ⟨rfl, k1⟩
  array_get_dec
  refine (sp_answers hD (by omega) hok).go ?_
  rintro _ M2 ⟨rfl, k2⟩
  array_get_dec
  refine (sp_later hn).go ?_
  rintro _ M3 ⟨n3, rfl, e3, g3, k3⟩
  array_get_dec
  refine wq_map (keptD (toldS D ns)) ?_
  array_get_dec
  refine k_mapL g3 (size_le (by simp [nxD]; omega)) (fun d hd M' k' => ?_) ?_
  · obtain ⟨s, hs, rfl⟩ := List.mem_map.mp hd
    cases ej : nxt ns s with
    | none =>
      array_get_dec
      refine wp_ev (a := .bl false) (M' := M') rfl ?_
      array_get_dec
      exact ⟨rfl, .refl⟩
    | some j =>
      have hj := (nxt_some ej).2.1
      have ha := told_at (D := D) hj
      array_get_dec
      refine wp_ev (a := .bl true) (M' := M') rfl ?_
      array_get_dec
      refine wp_ixT (atI_n ha) ?_
      exact ⟨rfl, .refl⟩
  intro n4 M4 e4 l4 k4 g4
  rw [kept_map] at g4
  array_get_dec
  refine (sp_isDevice hD).go ?_
  rintro _ M5 ⟨rfl, k5⟩
  array_get_dec
  have kl : (keptS D ns).length = ns.length := tab_len
  have fit : keepF ns (linesN D) (keptS D ns) 0 [] = true := by rw [keep_fits kl]; exact dev_fits hD
  have mc := miss_cnt (bs := toldS D ns)
  rw [told_len] at mc
  have dc := dev_cnt hD (ns := ns)
  have dl := dev_least hD h1 (ns := ns)
  refine ki_of (c := false) rfl ?_
  array_get_dec
  refine (sp_keepT hn hok h1 h4 kl).go ?_
  rintro _ M6 ⟨rfl, k6⟩
  rw [fit]
  array_get_dec
  refine wp_ev (a := .bl false) (M' := M6) rfl ?_
  array_get_dec
  refine (sp_misses hD (by omega) hok).go ?_
  rintro _ M7 ⟨rfl, k7⟩
  array_get_dec
  refine wp_or1 ?_
  array_get_dec
  refine wp_ev (a := .int ((cntB (keptS D ns) : Nat) : Int)) (M' := M7) (by
    show (if (true && (blsT (keptS D ns)).all flatD) = true then some (Dv.int ((blsT (keptS D ns)).countP (fun y => eqF y (.bl true)) : Nat), M7) else none) = _
    rw [bls_flat, cnt_bls]; rfl) ?_
  array_get_dec
  refine ki_of (c := false) (by
    rw [hl]
    show xor true (((missB (toldS D ns) : Nat) : Int) == (ns.length : Int) - ((cntB (keptS D ns) : Nat) : Int)) = false
    rw [show ((missB (toldS D ns) : Nat) : Int) = (ns.length : Int) - ((cntB (keptS D ns) : Nat) : Int) by omega]
    simp) ?_
  array_get_dec
  refine (sp_misses hD (by omega) hok).go ?_
  rintro _ M8 ⟨rfl, k8⟩
  array_get_dec
  refine (sp_least hn hok h1 h4).go ?_
  rintro _ M9 ⟨rfl, k9⟩
  have bl := best_len (ns := ns) h1
  have bn := cntB_n (bs := bestF ns (linesN D))
  have le : leastI ns (linesN D) ≤ ((missB (toldS D ns) : Nat) : Int) := by unfold leastI; omega
  array_get_dec
  refine ki_of (c := false) (by
    rw [decide_eq_false_iff_not]
    show ¬ ((missB (toldS D ns) : Nat) : Int) < leastI ns (linesN D)
    omega) ?_
  array_get_dec
  rename_i na Ma ea ga ka la
  refine (sp_cinit ga hD).go ?_
  rintro _ Mb ⟨rfl, ⟨b, s, r, ls, cc, q0, q1, q2, q3⟩, kb⟩
  have hkb := kb.1
  array_get_dec
  refine lc_request (e1 := 1) (e6 := 6) (e8 := 8) hD (by omega) hok rfl rfl (by decide) (by show 8 < 9; decide) cc fun nc Mc ec gc cc2 kc => ?_
  array_get_dec
  rename_i nd Md ed gd kd ld
  have gc : Mc[nc]? = some (.lst ((toldS D ns).map Dv.bl)) := gc
  have gd : Md[nd]? = some (.lst ((toldS D ns).map Dv.bl)) := gd
  have cc3 := cc2.kpN kd
  have hc := cc3.hc
  refine wq_eqS (k := 1) (k' := 1) (p := .list ((toldS D ns).map .bool)) (q := .list ((toldS D ns).map .bool)) (by subst_eqs) (by subst_eqs) (sm_list (smA_bools _)) (sm_list (smA_bools _)) (by decide) (by decide) ?_
  have ev : xor false (PyData.eqv (.list ((toldS D ns).map .bool)) (.list ((toldS D ns).map .bool))) = true := by
    unfold PyData.eqv
    rw [eqvA_bools, Bool.false_xor, beq_self_eq_true]
  rw [ev]
  array_get_dec
  refine wq_prop ?_
  array_get_dec
  refine ⟨⟨ins_ok hc rfl, rfl⟩, ?_⟩
  refine (sp_cmisses cc3).go ?_
  rintro _ _ ⟨rfl, rfl⟩
  array_get_dec
  refine (sp_least hn hok h1 h4).go ?_
  rintro _ Me ⟨rfl, ke⟩
  refine wp_ev (a := .bl true) (M' := Me) ?_ ?_
  · show some (Dv.bl (decide (leastI ns (linesN D) ≤ ((missB (toldS D ns) : Nat) : Int))), Me) = _
    rw [decide_eq_true le]
  array_get_dec
  refine ⟨rfl, ?_⟩
  have kk : Kp NoW M M9 := by array_mem_dec
  have hk := kk.1
  refine ((((kk.trN ka).trans kb fun n hn h => ?_).trans kc fun n hn h => ?_).trN kd).trN ke
  · have : n = na := h
    omega
  · rcases h with h | h | h
    · omega
    · omega
    · have := q3 _ h; omega
end L77

/-! text X4_77 -/
namespace L77
open PySem L2 PySem.Spec PyProof.Rows Zl
/-! ## _law_row_right: plain parts -/
theorem snoc_ind {P : List Str → Prop} (h0 : P []) (h1 : ∀ xs x, P xs → P (xs ++ [x])) : ∀ n (xs : List Str), xs.length = n → P xs
  | 0, xs, h => by rw [List.length_eq_zero_iff.mp h]; exact h0
  | n + 1, xs, h => by
    have ne : xs ≠ [] := by intro z; rw [z] at h; cases h
    rw [← List.dropLast_concat_getLast ne]
    exact h1 _ _ (snoc_ind h0 h1 n _ (by rw [List.length_dropLast]; omega))
theorem ded_mem {x : Str} {xs : List Str} : x ∈ dedS xs ↔ x ∈ xs := by
  refine snoc_ind (P := fun xs => x ∈ dedS xs ↔ x ∈ xs) Iff.rfl (fun ys y ih => ?_) xs.length xs rfl
  rw [dedS_snoc]
  split
  · rename_i hy
    rw [ih, List.mem_append]
    constructor
    · exact .inl
    · rintro (h | h)
      · exact h
      · have e : x = y := by simpa using h
        rw [e]
        by_cases z : x ∈ dedS ys
        · exact e ▸ ih.mp z
        · exact absurd (e ▸ hy) z
  · rw [List.mem_append, List.mem_append, ih]
theorem dcnt_snoc {ys : List Str} {y : Str} : dcnt (ys ++ [y]) = dcnt ys + if y ∈ ys then 0 else 1 := by
  unfold dcnt
  rw [List.length_append, List.length_singleton, List.range_succ, List.countP_append]
  congr 1
  · apply List.countP_congr
    intro i hi
    have hi' := List.mem_range.mp hi
    unfold newB
    rw [List.getElem?_append_left hi', List.take_append_of_le_length (by omega)]
  · unfold newB
    simp only [List.countP_cons, List.countP_nil]
    rw [List.getElem?_append_right (Nat.le_refl _), Nat.sub_self]
    simp only [List.getElem?_cons_zero, List.take_left]
    by_cases h : y ∈ ys
    · simp [h]
    · simp [h]
theorem ded_dcnt {ns : List Str} : (dedS ns).length = dcnt ns := by
  refine snoc_ind (P := fun xs => (dedS xs).length = dcnt xs) rfl (fun ys y ih => ?_) ns.length ns rfl
  rw [dedS_snoc, dcnt_snoc]
  by_cases h : y ∈ ys
  · rw [if_pos (ded_mem.mpr h), if_pos h, ih]; rfl
  · rw [if_neg (fun z => h (ded_mem.mp z)), if_neg h, List.length_append, ih]; rfl
def lsN (ns : List Str) (l : Nat) : Nat := ns.length - cntB (bestF ns l)
theorem cnt_len {ns : List Str} {l : Nat} (hl : 1 ≤ l) : cntB (bestF ns l) ≤ ns.length := by
  have := cntB_n (bs := bestF ns l)
  rwa [best_len hl] at this
theorem least_n {ns : List Str} {l : Nat} (hl : 1 ≤ l) : leastI ns l = ((lsN ns l : Nat) : Int) := by
  have := cnt_len (ns := ns) hl
  unfold leastI lsN
  omega
theorem sp_leastN {ns : List Str} {l : Nat} {M : Mem} (hn : ns.length ≤ 200) (hok : ∀ x ∈ ns, okName x = true) (h1 : 1 ≤ l) (h2 : l ≤ 4) :
    Wp (m_least_misses [.tup (strsD ns), .int (l : Nat)] M) fun r M' => r = .int (lsN ns l : Nat) ∧ Kp NoW M M' := by
  rw [← least_n h1]
  exact sp_least hn hok h1 h2
theorem ls_down {ns : List Str} {l k : Nat} (hl : 1 ≤ l) (hk : l ≤ k) : lsN ns k ≤ lsN ns l := by
  have := best_up (ns := ns) hl hk
  unfold lsN
  omega
theorem ls_ge {ns : List Str} {l : Nat} (hl : 1 ≤ l) : dcnt ns ≤ lsN ns l := by
  have := least_ge (ns := ns) hl
  unfold lsN
  omega
theorem ls_some {ns : List Str} {l : Nat} (hl : 1 ≤ l) (h : dcnt ns ≤ l) : lsN ns l = dcnt ns := by
  have := least_some hl h
  unfold lsN
  omega
theorem ls_one {ns : List Str} : lsN ns 1 = (List.range ns.length).countP (chgB ns) := by
  have := least_one (ns := ns)
  unfold lsN
  omega
theorem ls_first {ns : List Str} {l a : Nat} (hl : 1 ≤ l) (ha : a ≤ ns.length) : lsN (ns.take a) l ≤ lsN ns l := by
  have h1 := first_le hl ha
  have h2 := cnt_len (ns := ns) hl
  have h3 := cnt_len (ns := ns.take a) hl
  have hla : (ns.take a).length = a := by rw [List.length_take]; omega
  unfold lsN
  omega
theorem ls_both {ns : List Str} {l a : Nat} (hl : 1 ≤ l) (ha : a ≤ ns.length) : lsN ns l ≤ lsN (ns.take a) l + lsN (ns.drop a) l := by
  have h1 := both_le hl ha
  have h3 := cnt_len (ns := ns.take a) hl
  have h4 := cnt_len (ns := ns.drop a) hl
  have hla : (ns.take a).length = a := by rw [List.length_take]; omega
  have hlb : (ns.drop a).length = ns.length - a := List.length_drop
  unfold lsN
  omega
theorem ls_second {ns : List Str} {l a : Nat} (hl : 1 ≤ l) (ha : a ≤ ns.length) : lsN (ns.drop a) l ≤ lsN ns l := by
  have h1 := second_le hl ha
  have h3 := cnt_len (ns := ns) hl
  have hlb : (ns.drop a).length = ns.length - a := List.length_drop
  unfold lsN
  omega
theorem ls_le {ns : List Str} {l : Nat} : lsN ns l ≤ ns.length := Nat.sub_le _ _
/-! slices -/
theorem strs_cut {ns : List Str} {i : Nat} (h : i ≤ ns.length) : Zl.cutD (strsD ns) (some ((i : Nat) : Int)) none = strsD (ns.drop i) := by
  have hl : (strsD ns).length = ns.length := by simp [strsD]
  have e1 : HT.sIx (strsD ns).length 0 (some ((i : Nat) : Int)) = i := by rw [HT.sIx_nat]; omega
  have e2 : HT.sIx (strsD ns).length (strsD ns).length none = (strsD ns).length := rfl
  unfold Zl.cutD
  rw [e1, e2, List.take_of_length_le (by rw [List.length_drop]; omega)]
  unfold strsD
  rw [List.map_drop]
theorem strs_take {ns : List Str} {i : Nat} (h : i ≤ ns.length) : Zl.cutD (strsD ns) none (some ((i : Nat) : Int)) = strsD (ns.take i) := by
  rw [cut_take (by simpa [strsD] using h)]
  unfold strsD
  rw [List.map_take]
theorem strs_at1 {ns : List Str} {i : Nat} (h : i < ns.length) : Zl.cutD (strsD ns) (some ((i : Nat) : Int)) (some ((i : Nat) + 1 : Int)) = strsD [ns[i]] := by
  have hl : (strsD ns).length = ns.length := by simp [strsD]
  have e1 : HT.sIx (strsD ns).length 0 (some ((i : Nat) : Int)) = i := by rw [HT.sIx_nat]; omega
  have e2 : HT.sIx (strsD ns).length (strsD ns).length (some ((i : Nat) + 1 : Int)) = i + 1 := by
    rw [show ((i : Nat) : Int) + 1 = ((i + 1 : Nat) : Int) by omega, HT.sIx_nat]; omega
  unfold Zl.cutD
  rw [e1, e2, Nat.add_sub_cancel_left]
  unfold strsD
  rw [← List.map_drop, ← List.map_take, List.drop_eq_getElem_cons h]
  rfl
theorem strs_last {ns : List Str} : Zl.cutD (strsD ns) (some (-1)) none = strsD (ns.drop (ns.length - 1)) := by
  have hl : (strsD ns).length = ns.length := by simp [strsD]
  have e1 : HT.sIx (strsD ns).length 0 (some (-1)) = ns.length - 1 := by
    rw [hl]
    unfold HT.sIx
    simp
    omega
  have e2 : HT.sIx (strsD ns).length (strsD ns).length none = (strsD ns).length := rfl
  unfold Zl.cutD
  rw [e1, e2, List.take_of_length_le (by rw [List.length_drop]; omega)]
  unfold strsD
  rw [List.map_drop]
end L77

/-! text X5_77 -/
namespace L77
open PySem L2 PySem.Spec PyProof.Rows Zl
/-! ## _law_row_right -/
def tellN (ns : List Str) : List Nat := [lsN ns 1, lsN ns 2, lsN ns 3, lsN ns 4]
theorem lc_tell {ns : List Str} {M : Mem} {x0 x2 x3 x4 x5 x6 : Option Dv} {q : QE} (hn : ns.length ≤ 200) (hok : ∀ x ∈ ns, okName x = true) (hq : ∀ n M', M.length ≤ n → M'[n]? = some (.lst (intsN (tellN ns))) → Kp NoW M M' → q (.loc n) M') :
    Wp (fComp (fRng2 (fK (.int 1)) (fK (.int 5))) [4] (gN 4) fYes (fCall 2 m_least_misses (fCons (fV 1) (fCons (fV 4) fNil))) [x0, some (.tup (strsD ns)), x2, x3, x4, x5, x6] M) q := by
  refine wq_lcG (fun _ => true) (fun i => .int (lsN ns (i + 1) : Nat)) ?_
  refine wq_rng2 ?_
  array_get_dec
  refine ⟨1, 5, rfl, rfl, by decide, by decide, by decide, by decide, ?_⟩
  refine ⟨by show (5 - 1 : Int).toNat ≤ _; decide, fun k M' k' hk => ?_, fun M' k' => ?_, fun n3 M3 e3 l3 k3 g3 => ?_⟩
  · have hk' : k < 4 := hk
    refine ⟨.int ((k + 1 : Nat) : Int), ?_, ?_⟩
    · show (if k < (5 - 1 : Int).toNat then some (some (Dv.int ((1 : Int) + k))) else some none) = _
      rw [if_pos (show k < (5 - 1 : Int).toNat from hk'), show (1 : Int) + k = ((k + 1 : Nat) : Int) by omega]
    · array_get_dec
      refine wp_ev (a := true) (M' := M') rfl ⟨rfl, .refl, fun _ => ?_⟩
      array_get_dec
      refine (sp_leastN hn hok (by omega) (by omega)).go ?_
      rintro _ M5 ⟨rfl, k5⟩
      exact ⟨rfl, k5⟩
  · rfl
  · exact hq n3 M3 (by omega) g3 k3
theorem chg_test {ns : List Str} {i : Nat} {M : Mem} {q : QE} (hok : ∀ x ∈ ns, okName x = true) (h : i < ns.length) (c : q (.bl (chgB ns i)) M) :
    Wp (eqD true (.tup (strsD ((ns.take i).drop ((ns.take i).length - 1)))) (.tup (strsD [ns[i]])) M) q := by
  have hi : ns[i]? = some ns[i] := List.getElem?_eq_getElem h
  have sm1 : ∀ x ∈ ns, Sm 1 8 (.tuple [.str x]) := fun x hx => (sm_tuple (smA_cons (sm_name (k := 0) (hok x hx)) (smA_nil (n := 0)))).mono (Nat.le_refl _) (by omega)
  cases i with
  | zero =>
    refine wq_eqS (p := .tuple []) (q := .tuple [.str ns[0]]) (rd_tup rdL_nil) (rd_tup (rdL_cons rfl rdL_nil)) (sm_tuple (k := 0) (smA_nil (n := 0))) (sm1 _ (List.getElem_mem h)) (by decide) (by decide) ?_
    exact c
  | succ j =>
    have hj : j < ns.length := by omega
    have e : (ns.take (j + 1)).drop ((ns.take (j + 1)).length - 1) = [ns[j]] := by
      rw [List.length_take, Nat.min_eq_left (by omega), Nat.add_sub_cancel, List.take_add_one, List.getElem?_eq_getElem hj]
      rw [List.drop_append_of_le_length (by rw [List.length_take]; omega), List.drop_of_length_le (by rw [List.length_take]; omega)]; rfl
    rw [e]
    refine wq_eqS (p := .tuple [.str ns[j]]) (q := .tuple [.str ns[j + 1]]) (rd_tup (rdL_cons rfl rdL_nil)) (rd_tup (rdL_cons rfl rdL_nil)) (sm1 _ (List.getElem_mem hj)) (sm1 _ (List.getElem_mem h)) (by decide) (by decide) ?_
    have ev : xor true (PyData.eqv (.tuple [.str ns[j]]) (.tuple [.str ns[j + 1]])) = chgB ns (j + 1) := by
      have e1 : PyData.eqv (.tuple [.str ns[j]]) (.tuple [.str ns[j + 1]]) = ((ns[j] == ns[j + 1]) && true) := rfl
      rw [e1, Bool.and_true]
      unfold chgB
      rw [Nat.add_sub_cancel, List.getElem?_eq_getElem hj, hi]
      by_cases z : ns[j] = ns[j + 1]
      · simp [z]
      · simp [z]
    rw [ev]
    exact c
end L77

/-! text X6_77 -/
namespace L77
open PySem L2 PySem.Spec PyProof.Rows Zl
theorem tell_at {ns : List Str} : ∀ k, k < 4 → (intsN (tellN ns))[k]? = some (.int (lsN ns (k + 1) : Nat))
  | 0, _ => rfl
  | 1, _ => rfl
  | 2, _ => rfl
  | 3, _ => rfl
  | _ + 4, h => by omega
theorem wq_set {ns : List Str} {M : Mem} {q : QE} (hn : ns.length ≤ 200) (k : kNew (.sk (dedS ns)) (fun n M2 => q (.loc n) M2) M) : Wp (setOfE [.tup (strsD ns)] M) q := wq_setT (xs := ns) (by omega) k
theorem sp_rowRight {p : Nat} {ns : List Str} {M : Mem} (h : Pool p M) (hn : ns.length ≤ 200) (hok : ∀ x ∈ ns, okName x = true) :
    Wp (m__law_row_right [.loc p, .tup (strsD ns)] M) fun d M' => d = .bl true ∧ Pool p M' ∧ Kp (At p) M M' := by
  have hp := h.lt
  have hl : (strsD ns).length = ns.length := by simp [strsD]
  have tel : (intsN (tellN ns)).length = 4 := rfl
  refine wp_fn rfl [some (.loc p), some (.tup (strsD ns)), none, none, none, none, none] rfl ?_
  unfold b__law_row_right
  array_get_dec
  refine lc_tell hn hok fun n1 M1 e1 g1 k1 => ?_
  array_get_dec
  refine wq_sortR ?_
  array_get_dec
  have d1 := ls_down (ns := ns) (l := 1) (k := 2) (by decide) (by decide)
  have d2 := ls_down (ns := ns) (l := 2) (k := 3) (by decide) (by decide)
  have d3 := ls_down (ns := ns) (l := 3) (k := 4) (by decide) (by decide)
  have lle : ∀ l, lsN ns l ≤ 3000 := fun l => by have := ls_le (ns := ns) (l := l); omega
  have tsm : ∀ n ∈ tellN ns, n ≤ 3000 := fun n hn' => by
    unfold tellN at hn'
    simp only [List.mem_cons, List.not_mem_nil, or_false] at hn'
    rcases hn' with rfl | rfl | rfl | rfl <;> exact lle _
  refine ⟨n1, [(lsN ns 1 : Nat), (lsN ns 2 : Nat), (lsN ns 3 : Nat), (lsN ns 4 : Nat)], rfl, g1, ?_, fun n2 M2 e2 g2 k2 l2 => ?_⟩
  · unfold downB downB downB downB downB
    simp only [List.all_cons, List.all_nil, Bool.and_true, Bool.and_eq_true, decide_eq_true_eq]
    omega
  have g1' := k2.at g1 id
  have g2 : M2[n2]? = some (.lst (intsN (tellN ns))) := g2
  refine wq_eqS (p := .list (natsP (tellN ns))) (q := .list (natsP (tellN ns))) (rd_loc g1' (rd_nats _)) (rd_loc g2 (rd_nats _)) (sm_list (smA_nats tsm)) (sm_list (smA_nats tsm)) (k := 1) (k' := 1) (by decide) (by decide) ?_
  have ev : xor true (PyData.eqv (.list (natsP (tellN ns))) (.list (natsP (tellN ns)))) = false := by
    unfold PyData.eqv
    rw [eqvA_nats, beq_self_eq_true]; rfl
  rw [ev]
  array_get_dec
  rename_i n3 M3 e3 g3 k3 l3
  have g1b := k3.at g1' id
  refine wq_eqS (p := .list (natsP (tellN ns))) (q := .list []) (rd_loc g1b (rd_nats _)) (rd_loc g3 rdL_nil) (sm_list (smA_nats tsm)) (sm_list (smA_nil (n := 0))) (k := 1) (k' := 1) (by decide) (by decide) ?_
  refine kb true ?_
  array_get_dec
  refine wp_ev (a := .int (-1)) (M' := M3) rfl ?_
  array_get_dec
  refine wq_set hn ?_
  array_get_dec
  rename_i n4 M4 e4 g4 k4 l4
  refine wq_lenSk g4 ?_
  rw [ded_dcnt]
  array_get_dec
  have ge4 := ls_ge (ns := ns) (l := 4) (by decide)
  refine ki_of (c := false) (by
    rw [decide_eq_false_iff_not]
    show ¬ ((lsN ns 4 : Nat) : Int) < ((dcnt ns : Nat) : Int)
    omega) ?_
  have g1c := k4.at g1b id
  array_get_dec
  refine wq_lcG (chgB ns) (fun i => .int (i : Nat)) ?_
  array_get_dec
  refine ⟨by show (strsD ns).length ≤ _; omega, fun j M' k' hj => ?_, fun M' k' => rng_end, fun n5 M5 e5 l5 k5 g5 => ?_⟩
  · have hj' : j < ns.length := by have : j < (strsD ns).length := hj; omega
    refine ⟨.int (j : Nat), rng_go hj, ?_⟩
    array_get_dec
    rw [strs_take (by omega)]
    refine wp_ev (a := .int (-1)) (M' := M') rfl ?_
    array_get_dec
    rw [strs_last]
    array_get_dec
    rw [strs_at1 hj']
    refine chg_test hok hj' ?_
    array_get_dec
    refine ⟨rfl, .refl, fun _ => ?_⟩
    array_get_dec
    exact ⟨rfl, .refl⟩
  have g5 : M5[n5]? = some (.lst (((List.range (strsD ns).length).filter (chgB ns)).map fun i => Dv.int (i : Nat))) := g5
  rw [hl] at g5
  array_get_dec
  refine ki_of (c := false) (by
    rw [List.length_map, ← List.countP_eq_length_filter, ← ls_one]
    show xor true (((lsN ns 1 : Nat) : Int) == ((lsN ns 1 : Nat) : Int)) = false
    simp) ?_
  have g1d := k5.at g1c id
  array_get_dec
  refine wq_lcG (fun _ => false) (fun i => .non) ?_
  refine wq_rng2 ?_
  array_get_dec
  refine wq_set hn ?_
  array_get_dec
  rename_i n6 M6 e6 g6 k6 l6
  refine wq_lenSk g6 ?_
  rw [ded_dcnt]
  array_get_dec
  have g1e := k6.at g1d id
  have dn : dcnt ns ≤ ns.length := by
    have := ls_ge (ns := ns) (l := 1) (by decide)
    have := ls_le (ns := ns) (l := 1)
    omega
  refine ⟨((dcnt ns : Nat) : Int), 5, rfl, rfl, by omega, by omega, by decide, by decide, ?_⟩
  refine ⟨by show ((5 : Int) - ((dcnt ns : Nat) : Int)).toNat ≤ _; omega, fun j M' k' hj => ?_, fun M' k' => ?_, fun n7 M7 e7 l7 k7 g7 => ?_⟩
  · have hj' : j < ((5 : Int) - ((dcnt ns : Nat) : Int)).toNat := hj
    refine ⟨.int ((dcnt ns + j : Nat) : Int), ?_, ?_⟩
    · show (if j < ((5 : Int) - ((dcnt ns : Nat) : Int)).toNat then some (some (Dv.int (((dcnt ns : Nat) : Int) + j))) else some none) = _
      rw [if_pos hj', show ((dcnt ns : Nat) : Int) + j = ((dcnt ns + j : Nat) : Int) by omega]
    · have g1f := k'.at g1e id
      array_get_dec
      by_cases hz : dcnt ns + j = 0
      · refine ki_of (c := false) (by
          rw [decide_eq_false_iff_not]
          show ¬ ((dcnt ns + j : Nat) : Int) > 0
          omega) ?_
        array_get_dec
        exact ⟨rfl, .refl, fun h => by cases h⟩
      · refine ki_of (c := true) (by
          rw [decide_eq_true_eq]
          show ((dcnt ns + j : Nat) : Int) > 0
          omega) ?_
        array_get_dec
        have ix : atI (intsN (tellN ns)) (((dcnt ns + j : Nat) : Int) - 1) = some (.int (lsN ns (dcnt ns + j) : Nat)) := by
          rw [show ((dcnt ns + j : Nat) : Int) - 1 = ((dcnt ns + j - 1 : Nat) : Int) by omega]
          refine atI_n ?_
          rw [tell_at _ (by omega), show dcnt ns + j - 1 + 1 = dcnt ns + j by omega]
        refine wp_ixL g1f ix ?_
        array_get_dec
        refine wq_set hn ?_
        array_get_dec
        rename_i n8 M8 e8 g8 k8 l8
        refine wq_lenSk g8 ?_
        rw [ded_dcnt]
        array_get_dec
        refine ⟨?_, k8, fun h => by cases h⟩
        rw [ls_some (l := dcnt ns + j) (by omega) (by omega)]
        show xor true (((dcnt ns : Nat) : Int) == ((dcnt ns : Nat) : Int)) = false
        simp
  · show (if ((5 : Int) - ((dcnt ns : Nat) : Int)).toNat < ((5 : Int) - ((dcnt ns : Nat) : Int)).toNat then _ else some none) = _
    rw [if_neg (Nat.lt_irrefl _)]
  have g7 : M7[n7]? = some (.lst []) := by
    rw [g7, List.filter_eq_nil_iff.mpr (fun _ _ h => by cases h)]; rfl
  have g1g := k7.at g1e id
  array_get_dec
  rename_i n9 M9 e9 g9 k9 l9
  refine wq_eqS (p := .list []) (q := .list []) (rd_loc (k9.at g7 id) rdL_nil) (rd_loc g9 rdL_nil) (sm_list (smA_nil (n := 0))) (sm_list (smA_nil (n := 0))) (k := 1) (k' := 1) (by decide) (by decide) ?_
  refine kb false ?_
  array_get_dec
  have g1h := k9.at g1g id
  have kk : Kp NoW M M9 := by array_mem_dec
  have P9 : Pool p M9 := h.kp kk
  refine (sp_draw P9 (by omega) (by omega)).go ?_
  rintro _ Ma ⟨⟨a, rfl, fa⟩, Pa, ka⟩
  array_get_dec
  refine (sp_draw Pa (by decide) (by decide)).go ?_
  rintro _ Mb ⟨⟨m, rfl, fm⟩, Pb, kb'⟩
  array_get_dec
  rw [show (1 : Int) + (m : Nat) = ((1 + m : Nat) : Int) by omega]
  have ha : a ≤ ns.length := by omega
  have hm : m < 4 := by omega
  have hpn : n1 ≠ p := by omega
  have g1i := kb'.at (ka.at g1h hpn) hpn
  array_get_dec
  rw [strs_take ha]
  refine (sp_leastN (l := 1 + m) (by rw [List.length_take]; omega) (fun x hx => hok x (List.mem_of_mem_take hx)) (by omega) (by omega)).go ?_
  rintro _ Mc ⟨rfl, kc⟩
  array_get_dec
  rw [strs_cut ha]
  refine (sp_leastN (l := 1 + m) (by rw [List.length_drop]; omega) (fun x hx => hok x (List.mem_of_mem_drop hx)) (by omega) (by omega)).go ?_
  rintro _ Md ⟨rfl, kd⟩
  have g1j := kd.at (kc.at g1i id) id
  have ix : atI (intsN (tellN ns)) (((1 + m : Nat) : Int) - 1) = some (.int (lsN ns (1 + m) : Nat)) := by
    rw [show ((1 + m : Nat) : Int) - 1 = ((m : Nat) : Int) by omega]
    refine atI_n ?_
    rw [tell_at _ hm, Nat.add_comm]
  have f1 := ls_first (ns := ns) (l := 1 + m) (by omega) ha
  have f2 := ls_both (ns := ns) (l := 1 + m) (by omega) ha
  have f3 := ls_second (ns := ns) (l := 1 + m) (by omega) ha
  array_get_dec
  refine wp_ixL g1j ix ?_
  array_get_dec
  refine ki_of (c := false) (by
    rw [decide_eq_false_iff_not]
    show ¬ ((lsN (ns.take a) (1 + m) : Nat) : Int) > ((lsN ns (1 + m) : Nat) : Int)
    omega) ?_
  array_get_dec
  refine wp_ixL g1j ix ?_
  array_get_dec
  refine ki_of (c := false) (by
    rw [decide_eq_false_iff_not]
    show ¬ ((lsN ns (1 + m) : Nat) : Int) > ((lsN (ns.take a) (1 + m) : Nat) : Int) + ((lsN (ns.drop a) (1 + m) : Nat) : Int)
    omega) ?_
  array_get_dec
  refine wp_ixL g1j ix ?_
  array_get_dec
  refine ki_of (c := false) (by
    rw [decide_eq_false_iff_not]
    show ¬ ((lsN (ns.drop a) (1 + m) : Nat) : Int) > ((lsN ns (1 + m) : Nat) : Int) + ((1 + m : Nat) : Int)
    omega) ?_
  array_get_dec
  refine wp_or1 ?_
  array_get_dec
  refine (sp_best hn hok (by omega) (by omega)).go ?_
  rintro _ Me ⟨rfl, ke⟩
  array_get_dec
  refine wp_ev (a := .int ((cntB (bestF ns (1 + m)) : Nat) : Int)) (M' := Me) (by
    show (if (true && (blsT (bestF ns (1 + m))).all flatD) = true then some (Dv.int ((blsT (bestF ns (1 + m))).countP (fun y => eqF y (.bl true)) : Nat), Me) else none) = _
    rw [bls_flat, cnt_bls]; rfl) ?_
  have g1k := ke.at g1j id
  array_get_dec
  refine wp_ixL g1k ix ?_
  array_get_dec
  have cl := cnt_len (ns := ns) (l := 1 + m) (by omega)
  refine ⟨?_, ((Pb.kp kc).kp kd).kp ke, ?_⟩
  · rw [hl]
    show Dv.bl (xor false (((cntB (bestF ns (1 + m)) : Nat) : Int) == ((ns.length : Nat) : Int) - ((lsN ns (1 + m) : Nat) : Int))) = _
    unfold lsN
    rw [show ((ns.length : Nat) : Int) - ((ns.length - cntB (bestF ns (1 + m)) : Nat) : Int) = ((cntB (bestF ns (1 + m)) : Nat) : Int) by omega]
    simp
  · exact ((((((Kp.refl (W := At p)).trN kk).tr ka).tr kb').trN kc).trN kd).trN ke
end L77

/-! text X7_77 -/
namespace L77
open PySem L2 PySem.Spec PyProof.Rows Zl
theorem lines_ok {D : Dev} {mo : Nat} (hD : OkV D) (h : ∀ t ∈ D.tabs, t.l ≤ mo) : 1 ≤ linesN D ∧ linesN D ≤ 2 * mo := by
  cases D with
  | one t =>
    have h1 := (hD t (by simp [Dev.tabs])).l1
    have h2 := h t (by simp [Dev.tabs])
    show 1 ≤ 0 + t.l ∧ 0 + t.l ≤ _
    omega
  | two m t u =>
    have h1 := (hD t (by simp [Dev.tabs])).l1
    have h2 := h t (by simp [Dev.tabs])
    have h3 := h u (by simp [Dev.tabs])
    show 1 ≤ 0 + t.l + u.l ∧ 0 + t.l + u.l ≤ _
    omega
theorem one_ok {t : Tb} (ht : OkT t) : OkV (.one t) ∧ 1 ≤ linesN (.one t) ∧ linesN (.one t) ≤ 4 := by
  refine ⟨fun z hz => by simp [Dev.tabs] at hz; rw [hz]; exact ht, ?_⟩
  have h1 := ht.l1
  have h4 := ht.l4
  show 1 ≤ 0 + t.l ∧ 0 + t.l ≤ 4
  omega
theorem sp_kit {p : Nat} {M : Mem} (h : Pool p M) : Wp (m__law_kit [.loc p] M) fun d M' => (∃ D, d = devD D ∧ OkV D ∧ 1 ≤ linesN D ∧ linesN D ≤ 4) ∧ Pool p M' ∧ Kp (At p) M M' := by
  have hp := h.lt
  refine wp_fn rfl [some (.loc p), none, none] rfl ?_
  unfold b__law_kit
  array_get_dec
  refine (sp_draw h (by decide) (by decide)).go ?_
  rintro _ M1 ⟨⟨w, rfl, fw⟩, p1, k1⟩
  array_get_dec
  refine (sp_draw p1 (by decide) (by decide)).go ?_
  rintro _ M2 ⟨⟨m, rfl, fm⟩, p2, k2⟩
  array_get_dec
  rw [show (1 : Int) + (m : Nat) = ((1 + m : Nat) : Int) by omega]
  by_cases hw : ((w : Nat) : Int) < 2
  · refine ki_of (c := true) (decide_eq_true hw) ?_
    array_get_dec
    refine (sp_deviceL (mo := 2) (sn := 3) p2 (by decide) (by decide) (by decide) (by decide)).go ?_
    rintro _ M3 ⟨⟨D, rfl, hD, hl⟩, p3, k3⟩
    array_get_dec
    have := lines_ok hD hl
    exact ⟨⟨D, rfl, hD, by omega, by omega⟩, p3, by array_mem_dec⟩
  · refine ki_of (c := false) (decide_eq_false hw) ?_
    array_get_dec
    refine (sp_recent (l := 1 + m) (by omega) (by omega)).go ?_
    rintro _ M3 ⟨rfl, k3⟩
    array_get_dec
    refine (sp_queue (l := 1 + m) (by omega) (by omega)).go ?_
    rintro _ M4 ⟨rfl, k4⟩
    array_get_dec
    refine (sp_policyL (l := 1 + m) (s := 4) ((p2.kp k3).kp k4) (by omega) (by omega) (by decide) (by decide)).go ?_
    rintro _ M5 ⟨⟨t, rfl, ht, htl, _⟩, p5, k5⟩
    array_get_dec
    rename_i n6 M6 e6 g6 k6 l6
    have hp5 := p5.lt
    refine (sp_draw (p5.kp k6) (by decide) (by decide)).go ?_
    rintro _ M7 ⟨⟨r, rfl, fr⟩, p7, k7⟩
    have g7 : M7[n6]? = some (.lst [tabD (recT (1 + m)), tabD (queueT (1 + m)), tabD t]) := by bv_omega
    have pick : ∃ t', OkT t' ∧ atI [tabD (recT (1 + m)), tabD (queueT (1 + m)), tabD t] (r : Nat) = some (tabD t') := by
      match r, fr with
      | 0, _ => exact ⟨_, rec_ok (by omega) (by omega), rfl⟩
      | 1, _ => exact ⟨_, queue_ok (by omega) (by omega), rfl⟩
      | 2, _ => exact ⟨_, ht, rfl⟩
      | n + 3, h => omega
    obtain ⟨t', ht', et⟩ := pick
    refine wp_ixL g7 et ?_
    array_get_dec
    exact ⟨⟨.one t', rfl, one_ok ht'⟩, p7, by array_mem_dec⟩
theorem sp_right {p : Nat} {M : Mem} (h : Pool p M) : Wp (m__law_right [.loc p] M) fun d M' => d = .bl true ∧ Kp (At p) M M' := by
  refine wp_fn rfl [some (.loc p), none, none, none, none] rfl ?_
  unfold b__law_right
  array_get_dec
  refine wq_for (fun i env M' => ∃ (x1 x2 x3 x4 : Option Dv), env = [some (.loc p), x1, x2, x3, x4] ∧ Pool p M' ∧ Kp (At p) M M') ?_
  array_get_dec
  refine k_forR (n := 3) ⟨none, none, none, none, rfl, h, .refl⟩ ?_ ?_
  · rintro i env M1 hi ⟨x1, x2, x3, x4, rfl, P1, q1⟩
    array_get_dec
    refine (sp_kit P1).go ?_
    rintro _ M2 ⟨⟨D, rfl, hD, hl1, hl4⟩, P2, k2⟩
    array_get_dec
    refine wq_for (fun j env M' => ∃ (x3 x4 : Option Dv), env = [some (.loc p), some (.int (i : Nat)), some (devD D), x3, x4] ∧ Pool p M' ∧ Kp (At p) M M') ?_
    array_get_dec
    refine k_forR (n := 3) ⟨_, _, rfl, P2, q1.tr k2⟩ ?_ ?_
    · rintro j env M3 hj ⟨x3, x4, rfl, P3, q3⟩
      array_get_dec
      refine (sp_lawrow (many := 30) (most := 7) P3 (by decide) (by decide) (by decide)).go ?_
      rintro _ M4 ⟨⟨ns, rfl, a1, a2⟩, P4, k4⟩
      array_get_dec
      refine (sp_devRight hD hl1 hl4 (by omega) a2).go ?_
      rintro _ M5 ⟨rfl, k5⟩
      array_get_dec
      refine ki_of (c := false) rfl ?_
      array_get_dec
      refine (sp_rowRight (P4.kp k5) (by omega) a2).go ?_
      rintro _ M6 ⟨rfl, P6, k6⟩
      array_get_dec
      refine ki_of (c := false) rfl ?_
      array_get_dec
      exact ⟨_, _, rfl, P6, ((q3.tr k4).trN k5).tr k6⟩
    · rintro env M3 ⟨x3, x4, rfl, P3, q3⟩
      array_get_dec
      exact ⟨_, _, _, _, rfl, P3, q3⟩
  · rintro env M1 ⟨x1, x2, x3, x4, rfl, P1, q1⟩
    array_get_dec
    exact ⟨rfl, q1⟩
theorem math : ∀ ns : List Int, ns.length ≤ 63 → ∃ M', m_law [.rol (ns.map .int)] [] = some (.bl true, M') := by
  intro ns hns
  have h : Wp (m_law [.rol (ns.map .int)] []) fun d _ => d = .bl true := by
    refine wp_fn rfl [some (.rol (ns.map .int)), none] rfl ?_
    unfold b_law
    array_get_dec
    refine wq_map (fun _ => .bl true) ?_
    array_get_dec
    have hlen : ((ns.map Dv.int).length : Nat) = ns.length := by simp
    refine wp_ev (a := .int (min ns.length 6 : Nat)) (M' := []) ?_ ?_
    · unfold minD
      simp only [hlen]
      congr 3
      split <;> omega
    array_get_dec
    refine wp_ev (a := .int (max 2 (min ns.length 6) : Nat)) (M' := []) ?_ ?_
    · unfold maxD
      simp only
      congr 3
      split <;> omega
    array_get_dec
    refine k_mapR (size_le (by omega)) ?_ ?_
    · intro j hj M2 k2
      array_get_dec
      refine (sp_cell (k := j) (by omega)).go ?_
      rintro _ M3 ⟨⟨x, rfl⟩, k3⟩
      array_get_dec
      refine sp_pool.go ?_
      rintro _ M4 ⟨p, rfl, ep, hp, k4⟩
      array_get_dec
      refine (sp_right hp).go ?_
      rintro _ M5 ⟨rfl, k5⟩
      exact ⟨rfl, by array_mem_dec⟩
    · intro n M2 e2 l2 k2 g2
      array_get_dec
      refine wp_all g2 (bls_all (by simp)) ?_
      array_get_dec
      simp
  obtain ⟨d, M, e, rfl⟩ := h
  exact ⟨M, e⟩
end L77

open PySem PySem.W PyProof.Rows in
set_option maxRecDepth 100000 in
set_option maxHeartbeats 0 in
theorem PySem.Challenge.cw_missbounds_k77_whole_no_device_with_fewe_holds : PySem.Challenge.rw_missbounds_k77_whole_no_device_with_fewe.Holds := by
  w_on; o_law; k_head; (case hw => w_witness2)
  k_fill
  refine Zl.walk_end (l := PySem.Challenge.rw_missbounds_k77_whole_no_device_with_fewe) (k := 11) (x := "_law_script") (F := L77.m_law) rfl rfl ⟨rfl, by decide, by decide⟩ (fun w h Y => PySem.W.kIn_of Y) ?T L77.math
  intro w mg fa h KX G hmg
  refine' Exists.elim (L77.all_mk KX G hmg ?aC_Box ?pg_Box ?hd_Box ?po_Box ?sa_Box ?aC_Cache ?pg_Cache ?hd_Cache ?po_Cache ?sa_Cache ?a_Cache_note_answer ?i_Cache_note_answer ?l_Cache_note_answer ?c_Cache_note_answer ?k_Cache_note_answer ?a_Box_told ?i_Box_told ?l_Box_told ?c_Box_told ?k_Box_told ?a_Box_touch ?i_Box_touch ?l_Box_touch ?c_Box_touch ?k_Box_touch ?a_Box_fill ?i_Box_fill ?l_Box_fill ?c_Box_fill ?k_Box_fill ?a_Box_go_down ?i_Box_go_down ?l_Box_go_down ?c_Box_go_down ?k_Box_go_down ?a_Box_holds ?i_Box_holds ?l_Box_holds ?c_Box_holds ?k_Box_holds ?a_Box_ask ?i_Box_ask ?l_Box_ask ?c_Box_ask ?k_Box_ask ?a_is_name ?l_is_name ?c_is_name ?k_is_name ?a_check_name ?l_check_name ?c_check_name ?k_check_name ?a_Cache_request ?i_Cache_request ?l_Cache_request ?c_Cache_request ?k_Cache_request ?a_Cache_misses ?pr_Cache_misses ?pe_Cache_misses ?pt_Cache_misses ?l_Cache_misses ?c_Cache_misses ?k_Cache_misses ?a_next_requests ?l_next_requests ?c_next_requests ?k_next_requests ?a_is_integer ?l_is_integer ?c_is_integer ?k_is_integer ?a_is_between ?l_is_between ?c_is_between ?k_is_between ?a_check_lines ?l_check_lines ?c_check_lines ?k_check_lines ?a_check_history ?l_check_history ?c_check_history ?k_check_history ?a_check_asked ?l_check_asked ?c_check_asked ?k_check_asked ?a_best_keeping ?l_best_keeping ?c_best_keeping ?k_best_keeping ?a_least_misses ?l_least_misses ?c_least_misses ?k_least_misses ?a_Box_init ?i_Box_init ?mk_Box ?kc_Box ?l_Box_init ?c_Box_init ?k_Box_init ?a_is_row ?l_is_row ?c_is_row ?k_is_row ?a_is_policy ?l_is_policy ?c_is_policy ?k_is_policy ?a_is_device ?l_is_device ?c_is_device ?k_is_device ?a_check_device ?l_check_device ?c_check_device ?k_check_device ?a_Cache_init ?i_Cache_init ?mk_Cache ?kc_Cache ?l_Cache_init ?c_Cache_init ?k_Cache_init ?a_answers ?l_answers ?c_answers ?k_answers ?a_count_misses ?l_count_misses ?c_count_misses ?k_count_misses ?a_is_keeping ?l_is_keeping ?c_is_keeping ?k_is_keeping ?a__law_later ?l__law_later ?c__law_later ?k__law_later ?a_count_lines ?l_count_lines ?c_count_lines ?k_count_lines ?a__law_device_right ?l__law_device_right ?c__law_device_right ?k__law_device_right ?a__law_draw ?l__law_draw ?c__law_draw ?k__law_draw ?a__law_row_right ?l__law_row_right ?c__law_row_right ?k__law_row_right ?a__law_row ?l__law_row ?c__law_row ?k__law_row ?a__law_policy ?l__law_policy ?c__law_policy ?k__law_policy ?a__law_queue ?l__law_queue ?c__law_queue ?k__law_queue ?a__law_recent ?l__law_recent ?c__law_recent ?k__law_recent ?a__law_device ?l__law_device ?c__law_device ?k__law_device ?a__law_kit ?l__law_kit ?c__law_kit ?k__law_kit ?a__law_right ?l__law_right ?c__law_right ?k__law_right ?a__law_pool ?l__law_pool ?c__law_pool ?k__law_pool ?a__law_cell ?l__law_cell ?c__law_cell ?k__law_cell ?a_law ?l_law ?c_law ?k_law ?na_Box_mode ?na_Box_policies ?na_Box_rows ?na_Box_stages ?na_Cache_box ?na_Cache_hit_number ?na_Cache_miss_number ?na_Cache_pattern ?z_abs ?z_all ?z_any ?z_bool ?z_divmod ?z_enumerate ?z_int ?z_isinstance ?z_len ?z_list ?z_max ?z_min ?z_range ?z_set ?z_sorted ?z_str ?z_sum ?z_tuple ?g_LETTERS ?g_LEVELS ?gl_LEVELS ?g_LONGEST ?g_MOST_KEPT ?g_MOST_LINES ?g_MOST_REQUESTS ?g_MOST_STATES) ?fin
  (case aC_Box => k_is)
  (case pg_Box => k_is)
  (case hd_Box => k_is)
  (case po_Box => k_is)
  (case sa_Box => k_is)
  (case aC_Cache => k_is)
  (case pg_Cache => k_is)
  (case hd_Cache => k_is)
  (case po_Cache => k_is)
  (case sa_Cache => k_is)
  (case a_Cache_note_answer => k_is)
  (case i_Cache_note_answer => k_is)
  (case l_Cache_note_answer => k_is)
  (case c_Cache_note_answer => k_is)
  (case k_Cache_note_answer => k_is)
  (case a_Box_told => k_is)
  (case i_Box_told => k_is)
  (case l_Box_told => k_is)
  (case c_Box_told => k_is)
  (case k_Box_told => k_is)
  (case a_Box_touch => k_is)
  (case i_Box_touch => k_is)
  (case l_Box_touch => k_is)
  (case c_Box_touch => k_is)
  (case k_Box_touch => k_is)
  (case a_Box_fill => k_is)
  (case i_Box_fill => k_is)
  (case l_Box_fill => k_is)
  (case c_Box_fill => k_is)
  (case k_Box_fill => k_is)
  (case a_Box_go_down => k_is)
  (case i_Box_go_down => k_is)
  (case l_Box_go_down => k_is)
  (case c_Box_go_down => k_is)
  (case k_Box_go_down => k_is)
  (case a_Box_holds => k_is)
  (case i_Box_holds => k_is)
  (case l_Box_holds => k_is)
  (case c_Box_holds => k_is)
  (case k_Box_holds => k_is)
  (case a_Box_ask => k_is)
  (case i_Box_ask => k_is)
  (case l_Box_ask => k_is)
  (case c_Box_ask => k_is)
  (case k_Box_ask => k_is)
  (case a_is_name => k_is)
  (case l_is_name => k_is)
  (case c_is_name => k_is)
  (case k_is_name => k_is)
  (case a_check_name => k_is)
  (case l_check_name => k_is)
  (case c_check_name => k_is)
  (case k_check_name => k_is)
  (case a_Cache_request => k_is)
  (case i_Cache_request => k_is)
  (case l_Cache_request => k_is)
  (case c_Cache_request => k_is)
  (case k_Cache_request => k_is)
  (case a_Cache_misses => k_is)
  (case pr_Cache_misses => k_is)
  (case pe_Cache_misses => k_is)
  (case pt_Cache_misses => k_is)
  (case l_Cache_misses => k_is)
  (case c_Cache_misses => k_is)
  (case k_Cache_misses => k_is)
  (case a_next_requests => k_is)
  (case l_next_requests => k_is)
  (case c_next_requests => k_is)
  (case k_next_requests => k_is)
  (case a_is_integer => k_is)
  (case l_is_integer => k_is)
  (case c_is_integer => k_is)
  (case k_is_integer => k_is)
  (case a_is_between => k_is)
  (case l_is_between => k_is)
  (case c_is_between => k_is)
  (case k_is_between => k_is)
  (case a_check_lines => k_is)
  (case l_check_lines => k_is)
  (case c_check_lines => k_is)
  (case k_check_lines => k_is)
  (case a_check_history => k_is)
  (case l_check_history => k_is)
  (case c_check_history => k_is)
  (case k_check_history => k_is)
  (case a_check_asked => k_is)
  (case l_check_asked => k_is)
  (case c_check_asked => k_is)
  (case k_check_asked => k_is)
  (case a_best_keeping => k_is)
  (case l_best_keeping => k_is)
  (case c_best_keeping => k_is)
  (case k_best_keeping => k_is)
  (case a_least_misses => k_is)
  (case l_least_misses => k_is)
  (case c_least_misses => k_is)
  (case k_least_misses => k_is)
  (case a_Box_init => k_is)
  (case i_Box_init => k_is)
  (case mk_Box => k_is)
  (case kc_Box => k_is)
  (case l_Box_init => k_is)
  (case c_Box_init => k_is)
  (case k_Box_init => k_is)
  (case a_is_row => k_is)
  (case l_is_row => k_is)
  (case c_is_row => k_is)
  (case k_is_row => k_is)
  (case a_is_policy => k_is)
  (case l_is_policy => k_is)
  (case c_is_policy => k_is)
  (case k_is_policy => k_is)
  (case a_is_device => k_is)
  (case l_is_device => k_is)
  (case c_is_device => k_is)
  (case k_is_device => k_is)
  (case a_check_device => k_is)
  (case l_check_device => k_is)
  (case c_check_device => k_is)
  (case k_check_device => k_is)
  (case a_Cache_init => k_is)
  (case i_Cache_init => k_is)
  (case mk_Cache => k_is)
  (case kc_Cache => k_is)
  (case l_Cache_init => k_is)
  (case c_Cache_init => k_is)
  (case k_Cache_init => k_is)
  (case a_answers => k_is)
  (case l_answers => k_is)
  (case c_answers => k_is)
  (case k_answers => k_is)
  (case a_count_misses => k_is)
  (case l_count_misses => k_is)
  (case c_count_misses => k_is)
  (case k_count_misses => k_is)
  (case a_is_keeping => k_is)
  (case l_is_keeping => k_is)
  (case c_is_keeping => k_is)
  (case k_is_keeping => k_is)
  (case a__law_later => k_is)
  (case l__law_later => k_is)
  (case c__law_later => k_is)
  (case k__law_later => k_is)
  (case a_count_lines => k_is)
  (case l_count_lines => k_is)
  (case c_count_lines => k_is)
  (case k_count_lines => k_is)
  (case a__law_device_right => k_is)
  (case l__law_device_right => k_is)
  (case c__law_device_right => k_is)
  (case k__law_device_right => k_is)
  (case a__law_draw => k_is)
  (case l__law_draw => k_is)
  (case c__law_draw => k_is)
  (case k__law_draw => k_is)
  (case a__law_row_right => k_is)
  (case l__law_row_right => k_is)
  (case c__law_row_right => k_is)
  (case k__law_row_right => k_is)
  (case a__law_row => k_is)
  (case l__law_row => k_is)
  (case c__law_row => k_is)
  (case k__law_row => k_is)
  (case a__law_policy => k_is)
  (case l__law_policy => k_is)
  (case c__law_policy => k_is)
  (case k__law_policy => k_is)
  (case a__law_queue => k_is)
  (case l__law_queue => k_is)
  (case c__law_queue => k_is)
  (case k__law_queue => k_is)
  (case a__law_recent => k_is)
  (case l__law_recent => k_is)
  (case c__law_recent => k_is)
  (case k__law_recent => k_is)
  (case a__law_device => k_is)
  (case l__law_device => k_is)
  (case c__law_device => k_is)
  (case k__law_device => k_is)
  (case a__law_kit => k_is)
  (case l__law_kit => k_is)
  (case c__law_kit => k_is)
  (case k__law_kit => k_is)
  (case a__law_right => k_is)
  (case l__law_right => k_is)
  (case c__law_right => k_is)
  (case k__law_right => k_is)
  (case a__law_pool => k_is)
  (case l__law_pool => k_is)
  (case c__law_pool => k_is)
  (case k__law_pool => k_is)
  (case a__law_cell => k_is)
  (case l__law_cell => k_is)
  (case c__law_cell => k_is)
  (case k__law_cell => k_is)
  (case a_law => k_is)
  (case l_law => k_is)
  (case c_law => k_is)
  (case k_law => k_is)
  (case na_Box_mode => k_is)
  (case na_Box_policies => k_is)
  (case na_Box_rows => k_is)
  (case na_Box_stages => k_is)
  (case na_Cache_box => k_is)
  (case na_Cache_hit_number => k_is)
  (case na_Cache_miss_number => k_is)
  (case na_Cache_pattern => k_is)
  (case z_abs => k_is)
  (case z_all => k_is)
  (case z_any => k_is)
  (case z_bool => k_is)
  (case z_divmod => k_is)
  (case z_enumerate => k_is)
  (case z_int => k_is)
  (case z_isinstance => k_is)
  (case z_len => k_is)
  (case z_list => k_is)
  (case z_max => k_is)
  (case z_min => k_is)
  (case z_range => k_is)
  (case z_set => k_is)
  (case z_sorted => k_is)
  (case z_str => k_is)
  (case z_sum => k_is)
  (case z_tuple => k_is)
  (case g_LETTERS => k_is)
  (case g_LEVELS => k_is)
  (case gl_LEVELS => k_is)
  (case g_LONGEST => k_is)
  (case g_MOST_KEPT => k_is)
  (case g_MOST_LINES => k_is)
  (case g_MOST_REQUESTS => k_is)
  (case g_MOST_STATES => k_is)
  case fin =>
    rintro T ⟨rfl, hb⟩
    exact ⟨T.ct _ _, T.d_law, hb, fun base _ _ => L77.ok_law T⟩
