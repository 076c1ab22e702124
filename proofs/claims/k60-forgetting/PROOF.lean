import PyProof.Rows.All
import HandS.ForMost
import HandS.Deep
import HandS.TupAny
import HandS.TupMul
import HandS.IsInst
import HandS.Flow
import HandS.Conv
import HandS.Star
import KE.KDictKeyed
import HandS.SetKeys
import HandS.RaiseMore
import HandS.Strs
import PyProof.FactsAll.list
import HandS.NoneIn
import HandS.Style
import HandS.Zip
import KE.GoesMore
import PyProof.ListStr
import KE.KDictDisplayH
import HandS.Small
import HandS.WordsDict
import KE.KDictCopyH
import HandS.Iter
import HandS.Remove
import PyProof.Rows.SetFrom
import HandS.Property
import HandS.SortKw
import PyProof.Rows.SetObj
import HandS.SetBool
import HandS.SetFor
import HandS.DictComp
import PyProof.MinMaxWalk
import PyProof.Rows.ReprOcc
import PySem.Challenge.RW_missbounds_k60_forgetting
set_option Elab.async false
set_option linter.all false
set_option maxRecDepth 100000
set_option maxHeartbeats 4000000
/-! text Z1 -/
namespace Zl
open PySem L2

/-! ## Data, memory, the relation to the abstract heap -/
inductive Dv where
  | non
  | bl (b : Bool)
  | int (i : Int)
  | str (x : Str)
  | tup (xs : List Dv)
  | loc (n : Nat)
  | rol (xs : List Dv)
  | ty (n : String)
  | pr (xs : List Dv)
  deriving Inhabited

inductive Ob where
  | lst (xs : List Dv)
  | ins (c : Nat) (fs : List (Str × Dv))
  | dct (kvs : List (Key × Dv))
  | dcn (kvs : List (NestedKey × Dv × Dv))
  | st (xs : List Int)
  | sk (xs : List Str)
  | lck
  | lckN (kvs : List (NestedKey × Dv × Dv))
  deriving Inhabited
/-- the classes' places; the program, the world -/
structure Ct where
  cls : Nat → Option Addr
  prg : Program
  wd : World
instance : CoeFun Ct (fun _ => Nat → Option Addr) := ⟨Ct.cls⟩
/-- keys that are tuples, nested -/
def nkL (f : Dv → Option NestedKey) : List Dv → Option (List NestedKey)
  | [] => some []
  | x :: xs => match f x with
    | some k => match nkL f xs with
      | some ks => some (k :: ks)
      | none => none
    | none => none
def nkN : Nat → Dv → Option NestedKey
  | _, .non => some .none
  | _, .bl b => some (.num (if b then 1 else 0))
  | _, .int i => some (.num i)
  | _, .str x => some (.text x)
  | _, .loc _ => none
  | _, .rol _ => none
  | _, .ty _ => none
  | _, .pr _ => none
  | 0, .tup _ => none
  | n + 1, .tup xs => match nkL (nkN n) xs with
    | some ks => some (.tup ks)
    | none => none
def keyN : Dv → Option NestedKey
  | .tup xs => nkN 8 (.tup xs)
  | .pr xs => nkN 8 (.tup xs)
  | _ => none
/-- a dict with such keys: where the keys stand, the values -/
def RawN (P : Program) (w : World) (h : Heap) (a : Addr) (xs : List (NestedKey × Addr × Value)) : Prop :=
  ∃ o es ep, h.get? a = some o ∧ o.ExactDict ∧ o.data = .dict es ep ∧ es.toList = xs.map (entryOfKey (nestedKind P w)) ∧ (xs.map (·.1)).Nodup ∧ xs.length ≤ sizeLine ∧ (a == sysModules) = false
def NDic (P : Program) (w : World) (a : Addr) (xs : List (NestedKey × Addr × Value)) : HO := .ext fun h => RawN P w h a xs

abbrev Mem := List Ob
abbrev En := List (Option Dv)
abbrev Frg := PySem.W.Frag

/-- a list that nothing here writes: locked, or of the written part -/
def SqF (K : Frg) (H : Hp) (a : Addr) (xs : List V) : Prop :=
  (∃ o, H a = some (.frz o (.lst xs))) ∨ ((∀ H' : Hp, SqL K H' a xs) ∧ ∃ o : Obj, K.lookup a = some o ∧ o.cls = .type "list")
theorem SqF.sq {K : Frg} {H : Hp} {a : Addr} {xs : List V} (h : SqF K H a xs) : SqL K H a xs := by
  rcases h with ⟨o, h⟩ | ⟨h, _⟩
  · exact .inl (.inr ⟨o, h⟩)
  · exact h H

/-- a tuple without a dict of its own: locked, or of the written part -/
def TupD (K : Frg) (H : Hp) (a : Addr) (xs : List V) : Prop :=
  (∃ o : Obj, H a = some (.frz o (.tup xs)) ∧ o.dict = none) ∨
    ∃ (o : Obj) (its : Array Value) (n : Nat), K.lookup a = some o ∧ o.cls = .type "tuple" ∧ o.dict = none ∧ o.data = .seq its n ∧ its.size ≤ sizeLine ∧ Vals xs its.toList
theorem TupD.sq {K : Frg} {H : Hp} {a : Addr} {xs : List V} (h : TupD K H a xs) : SqT K H a xs := by
  rcases h with ⟨o, h, _⟩ | ⟨o, its, n, h1, h2, _, h3, h4, h5⟩
  · exact .inl (.inr ⟨o, h⟩)
  · exact .inr ⟨o, its, n, h1, h2, h3, h4, h5⟩

mutual
inductive DV (K : Frg) (ρ : List Addr) (H : Hp) : Dv → V → Prop
  | non : DV K ρ H .non .non
  | bl (b : Bool) : DV K ρ H (.bl b) (.bl b)
  | int (i : Int) : DV K ρ H (.int i) (.int i)
  | str (x : Str) : DV K ρ H (.str x) (.str x)
  | tup {ds : List Dv} {vs : List V} {a : Addr} : TupD K H a vs → DVs K ρ H ds vs → DV K ρ H (.tup ds) (.ref a)
  | loc {n : Nat} {a : Addr} : ρ[n]? = some a → DV K ρ H (.loc n) (.ref a)
  | rol {ds : List Dv} {vs : List V} {a : Addr} : SqF K H a vs → DVs K ρ H ds vs → DV K ρ H (.rol ds) (.ref a)
  | ty (n : String) : DV K ρ H (.ty n) (.ty n)
  | pr {ds : List Dv} {vs : List V} {a : Addr} : SqT K H a vs → DVs K ρ H ds vs → DV K ρ H (.pr ds) (.ref a)
inductive DVs (K : Frg) (ρ : List Addr) (H : Hp) : List Dv → List V → Prop
  | nil : DVs K ρ H [] []
  | cons {d : Dv} {v : V} {ds : List Dv} {vs : List V} : DV K ρ H d v → DVs K ρ H ds vs → DVs K ρ H (d :: ds) (v :: vs)
end

structure Ext (K : Frg) (ρ : List Addr) (H : Hp) (ρ' : List Addr) (H' : Hp) : Prop where
  pre : ∀ (n : Nat) (a : Addr), ρ[n]? = some a → ρ'[n]? = some a
  tup : ∀ a vs, SqT K H a vs → SqT K H' a vs
  frz : ∀ a o u, H a = some (.frz o u) → H' a = some (.frz o u)
theorem Ext.refl {K : Frg} {ρ : List Addr} {H : Hp} : Ext K ρ H ρ H := ⟨fun _ _ h => h, fun _ _ h => h, fun _ _ _ h => h⟩
theorem Ext.trans {K : Frg} {ρ ρ1 ρ2 : List Addr} {H H1 H2 : Hp} (a : Ext K ρ H ρ1 H1) (b : Ext K ρ1 H1 ρ2 H2) : Ext K ρ H ρ2 H2 :=
  ⟨fun n x h => b.pre n x (a.pre n x h), fun x vs h => b.tup x vs (a.tup x vs h), fun x o u h => b.frz x o u (a.frz x o u h)⟩
theorem TupD.mono {K : Frg} {ρ ρ' : List Addr} {H H' : Hp} {a : Addr} {xs : List V} (h : TupD K H a xs) (e : Ext K ρ H ρ' H') : TupD K H' a xs := by
  rcases h with ⟨o, h, z⟩ | h
  · exact .inl ⟨o, e.frz _ _ _ h, z⟩
  · exact .inr h
theorem TupD.new {K : Frg} {H : Hp} {p : Addr} {o : Obj} {xs : List V} (z : o.dict = none) : TupD K (upd H p (.frz o (.tup xs))) p xs := .inl ⟨o, upd_same, z⟩
theorem SqF.mono {K : Frg} {ρ ρ' : List Addr} {H H' : Hp} {a : Addr} {xs : List V} (h : SqF K H a xs) (e : Ext K ρ H ρ' H') : SqF K H' a xs := by
  rcases h with ⟨o, h⟩ | h
  · exact .inl ⟨o, e.frz _ _ _ h⟩
  · exact .inr h

section
variable {K : Frg} {ρ ρ' : List Addr} {H H' : Hp}
mutual
theorem DV.mono (e : Ext K ρ H ρ' H') : ∀ {d : Dv} {v : V}, DV K ρ H d v → DV K ρ' H' d v
  | _, _, .non => .non
  | _, _, .bl b => .bl b
  | _, _, .int i => .int i
  | _, _, .str x => .str x
  | _, _, .tup h r => .tup (h.mono e) (DVs.mono e r)
  | _, _, .pr h r => .pr (e.tup _ _ h) (DVs.mono e r)
  | _, _, .loc h => .loc (e.pre _ _ h)
  | _, _, .rol h r => .rol (h.mono e) (DVs.mono e r)
  | _, _, .ty n => .ty n
theorem DVs.mono (e : Ext K ρ H ρ' H') : ∀ {ds : List Dv} {vs : List V}, DVs K ρ H ds vs → DVs K ρ' H' ds vs
  | _, _, .nil => .nil
  | _, _, .cons h r => .cons (DV.mono e h) (DVs.mono e r)
end
theorem DVs.length : ∀ {ds : List Dv} {vs : List V}, DVs K ρ H ds vs → ds.length = vs.length
  | _, _, .nil => rfl
  | _, _, .cons _ r => by rw [List.length_cons, List.length_cons, DVs.length r]
theorem DVs.append : ∀ {ds es : List Dv} {vs ws : List V}, DVs K ρ H ds vs → DVs K ρ H es ws → DVs K ρ H (ds ++ es) (vs ++ ws)
  | _, _, _, _, .nil, s => s
  | _, _, _, _, .cons h r, s => .cons h (DVs.append r s)
theorem DVs.get : ∀ {ds : List Dv} {vs : List V} {i : Nat} {d : Dv}, DVs K ρ H ds vs → ds[i]? = some d → ∃ v, vs[i]? = some v ∧ DV K ρ H d v
  | _, _, _, _, .nil, e => by simp at e
  | _, _, 0, _, .cons h _, e => by simp at e; subst e; exact ⟨_, rfl, h⟩
  | _, _, i + 1, d, .cons _ r, e => by
    obtain ⟨u, h1, h2⟩ := DVs.get (i := i) (d := d) r (by simpa using e)
    exact ⟨u, by simpa using h1, h2⟩
theorem DVs.set {x : Dv} {u : V} (h : DV K ρ H x u) : ∀ {ds : List Dv} {vs : List V} (i : Nat), DVs K ρ H ds vs → DVs K ρ H (ds.set i x) (vs.set i u)
  | _, _, _, .nil => .nil
  | _, _, 0, .cons _ t => .cons h t
  | _, _, i + 1, .cons q t => .cons q (DVs.set h i t)
theorem DVs.take : ∀ {ds : List Dv} {vs : List V} (n : Nat), DVs K ρ H ds vs → DVs K ρ H (ds.take n) (vs.take n)
  | _, _, 0, _ => .nil
  | _, _, _ + 1, .nil => .nil
  | _, _, n + 1, .cons r t => .cons r (DVs.take n t)
theorem DVs.drop : ∀ {ds : List Dv} {vs : List V} (n : Nat), DVs K ρ H ds vs → DVs K ρ H (ds.drop n) (vs.drop n)
  | _, _, 0, r => r
  | _, _, _ + 1, .nil => .nil
  | _, _, n + 1, .cons _ t => DVs.drop n t
theorem DVs.rep {ds : List Dv} {vs : List V} (h : DVs K ρ H ds vs) : ∀ k : Nat, DVs K ρ H (List.replicate k ds).flatten (List.replicate k vs).flatten
  | 0 => .nil
  | k + 1 => by
    rw [List.replicate_succ, List.replicate_succ, List.flatten_cons, List.flatten_cons]
    exact DVs.append h (DVs.rep h k)
end

/-- an instance's attributes -/
def FV (K : Frg) (ρ : List Addr) (H : Hp) (fs : List (Str × Dv)) (vfs : List (Str × V)) : Prop :=
  fs.map (·.1) = vfs.map (·.1) ∧ DVs K ρ H (fs.map (·.2)) (vfs.map (·.2))
def ObOk (K : Frg) (ct : Ct) (ρ : List Addr) (H : Hp) (a : Addr) : Ob → Prop
  | .lst ds => ∃ vs, H a = some (.lst vs) ∧ DVs K ρ H ds vs
  | .ins c fs => ∃ C dx vfs, ct c = some C ∧ H a = some (.ins C dx vfs) ∧ FV K ρ H fs vfs
  | .dct kvs => ∃ vs : List (Key × V), H a = some (.dK vs) ∧ kvs.map (·.1) = vs.map (·.1) ∧ DVs K ρ H (kvs.map (·.2)) (vs.map (·.2))
  | .dcn kvs => ∃ (xs : List (NestedKey × Addr × Value)) (vs : List V), H a = some (NDic ct.prg ct.wd a xs) ∧ kvs.map (·.1) = xs.map (·.1) ∧ (∀ p ∈ kvs, keyN p.2.1 = some p.1) ∧
      DVs K ρ H (kvs.map (·.2.1)) (xs.map fun x => V.ref x.2.1) ∧ DVs K ρ H (kvs.map (·.2.2)) vs ∧ Vals vs (xs.map (·.2.2))
  | .st xs => H a = some (.set (fun k => xs.any (· == k)) xs.length)
  | .sk xs => H a = some (SetK ct.prg ct.wd a (fun k => xs.any fun x => decide (k = Sum.inr x)) xs.length)
  | .lck => ∃ o u, H a = some (.frz o u)
  | .lckN kvs => ∃ (od : Obj) (xs : List (NestedKey × Addr × Value)) (vs : List V), H a = some (.frz od (NDic ct.prg ct.wd a xs)) ∧ kvs.map (·.1) = xs.map (·.1) ∧ (∀ p ∈ kvs, keyN p.2.1 = some p.1) ∧
      DVs K ρ H (kvs.map (·.2.1)) (xs.map fun x => V.ref x.2.1) ∧ DVs K ρ H (kvs.map (·.2.2)) vs ∧ Vals vs (xs.map (·.2.2))
def Ob.live : Ob → Bool
  | .lck => false
  | .lckN _ => false
  | _ => true
def softH : HO → Bool
  | .tup _ => false
  | .frz _ _ => false
  | _ => true
theorem soft_of {H : Hp} {a : Addr} {x : HO} (h : H a = some x) (hs : softH x = true) : (∀ vs, H a ≠ some (.tup vs)) ∧ ∀ o u, H a ≠ some (.frz o u) :=
  ⟨(fun vs q => by rw [h] at q; cases q; cases hs), (fun o u q => by rw [h] at q; cases q; cases hs)⟩
structure Rl (K : Frg) (ct : Ct) (ρ : List Addr) (M : Mem) (H : Hp) : Prop where
  len : ρ.length = M.length
  nd : ρ.Nodup
  ok : ∀ (n : Nat) o, M[n]? = some o → ∃ a, ρ[n]? = some a ∧ ObOk K ct ρ H a o
def EnOk (K : Frg) (ρ : List Addr) (H : Hp) (env : En) (σ : St) : Prop :=
  env.length = σ.length ∧ ∀ (i : Nat) d, env[i]? = some (some d) → ∃ v, σ[i]? = some (some v) ∧ DV K ρ H d v

section
variable {K : Frg} {ct : Ct} {ρ ρ' : List Addr} {M : Mem} {H H' : Hp} {a p : Addr}
theorem FV.mono {fs : List (Str × Dv)} {vfs : List (Str × V)} (h : FV K ρ H fs vfs) (e : Ext K ρ H ρ' H') : FV K ρ' H' fs vfs := ⟨h.1, h.2.mono e⟩
theorem ObOk.mono {o : Ob} (h : ObOk K ct ρ H a o) (e : Ext K ρ H ρ' H') (q : H' a = H a) : ObOk K ct ρ' H' a o := by
  cases o with
  | lst ds => obtain ⟨vs, h1, h2⟩ := h; exact ⟨vs, q.trans h1, h2.mono e⟩
  | ins c fs => obtain ⟨C, dx, vfs, h0, h1, h2⟩ := h; exact ⟨C, dx, vfs, h0, q.trans h1, h2.mono e⟩
  | dct kvs => obtain ⟨vs, h1, h2, h3⟩ := h; exact ⟨vs, q.trans h1, h2, h3.mono e⟩
  | dcn kvs => obtain ⟨xs, vs, h1, h2, h3, h4, h5, h6⟩ := h; exact ⟨xs, vs, q.trans h1, h2, h3, h4.mono e, h5.mono e, h6⟩
  | st xs => exact q.trans h
  | sk xs => exact q.trans h
  | lck => obtain ⟨o, u, h1⟩ := h; exact ⟨o, u, q.trans h1⟩
  | lckN kvs => obtain ⟨od, xs, vs, h1, h2, h3, h4, h5, h6⟩ := h; exact ⟨od, xs, vs, q.trans h1, h2, h3, h4.mono e, h5.mono e, h6⟩
theorem ObOk.there {o : Ob} (h : ObOk K ct ρ H a o) : H a ≠ none := by
  cases o with
  | lst ds => obtain ⟨vs, h1, h2⟩ := h; rw [h1]; simp
  | ins c fs => obtain ⟨C, dx, vfs, h0, h1, h2⟩ := h; rw [h1]; simp
  | dct kvs => obtain ⟨vs, h1, h2, h3⟩ := h; rw [h1]; simp
  | dcn kvs => obtain ⟨xs, vs, h1, h2⟩ := h; rw [h1]; simp
  | st xs => rw [show H a = _ from h]; simp
  | sk xs => rw [show H a = _ from h]; simp
  | lck => obtain ⟨o, u, h1⟩ := h; rw [h1]; simp
  | lckN kvs => obtain ⟨od, xs, vs, h1, h2⟩ := h; rw [h1]; simp
theorem ObOk.soft {o : Ob} (h : ObOk K ct ρ H a o) (hl : o.live = true := by rfl) : (∀ vs, H a ≠ some (.tup vs)) ∧ ∀ o u, H a ≠ some (.frz o u) := by
  cases o with
  | lst ds => obtain ⟨vs, h1, h2⟩ := h; rw [h1]; exact ⟨fun _ q => (by cases q), fun _ _ q => (by cases q)⟩
  | ins c fs => obtain ⟨C, dx, vfs, h0, h1, h2⟩ := h; rw [h1]; exact ⟨fun _ q => (by cases q), fun _ _ q => (by cases q)⟩
  | dct kvs => obtain ⟨vs, h1, h2, h3⟩ := h; rw [h1]; exact ⟨fun _ q => (by cases q), fun _ _ q => (by cases q)⟩
  | dcn kvs => obtain ⟨xs, vs, h1, h2⟩ := h; rw [h1]; exact ⟨fun _ q => (by cases q), fun _ _ q => (by cases q)⟩
  | st xs => rw [show H a = _ from h]; exact ⟨fun _ q => (by cases q), fun _ _ q => (by cases q)⟩
  | sk xs => rw [show H a = _ from h]; exact ⟨fun _ q => (by cases q), fun _ _ q => (by cases q)⟩
  | lck => cases hl
  | lckN kvs => cases hl
theorem EnOk.mono {env : En} {σ : St} (h : EnOk K ρ H env σ) (e : Ext K ρ H ρ' H') : EnOk K ρ' H' env σ :=
  ⟨h.1, fun i d q => let ⟨v, h1, h2⟩ := h.2 i d q; ⟨v, h1, h2.mono e⟩⟩
theorem EnOk.set {env : En} {σ : St} {d : Dv} {v : V} (h : EnOk K ρ H env σ) (i : Nat) (r : DV K ρ H d v) : EnOk K ρ H (env.set i (some d)) (σ.set i (some v)) := by
  refine ⟨by simp [h.1], fun j x q => ?_⟩
  by_cases hij : i = j
  · subst hij
    rw [List.getElem?_set] at q
    by_cases hl : i < env.length
    · rw [if_pos rfl, if_pos hl] at q
      cases q
      exact ⟨v, by rw [List.getElem?_set, if_pos rfl, if_pos (h.1 ▸ hl)], r⟩
    · rw [if_pos rfl, if_neg hl] at q; cases q
  · rw [List.getElem?_set_ne hij] at q
    obtain ⟨u, h1, h2⟩ := h.2 j x q
    exact ⟨u, by rw [List.getElem?_set_ne hij]; exact h1, h2⟩
theorem sqT_soft {vs : List V} {o' : HO} (h : SqT K H p vs) (ht : ∀ vs, H a ≠ some (.tup vs)) (hf : ∀ o u, H a ≠ some (.frz o u)) : SqT K (upd H a o') p vs := by
  rcases h with (h | ⟨o, h⟩) | h
  · have ne : p ≠ a := fun e => ht vs (e ▸ h)
    exact .inl (.inl (by rw [upd_ne ne]; exact h))
  · have ne : p ≠ a := fun e => hf o _ (e ▸ h)
    exact .inl (.inr ⟨o, by rw [upd_ne ne]; exact h⟩)
  · exact .inr h
theorem Ext.soft {o' : HO} (hp : ∀ (n : Nat) (a : Addr), ρ[n]? = some a → ρ'[n]? = some a) (ht : ∀ vs, H a ≠ some (.tup vs)) (hf : ∀ o u, H a ≠ some (.frz o u)) : Ext K ρ H ρ' (upd H a o') :=
  ⟨hp, fun b vs h => sqT_soft h ht hf, fun b o u h => by
    have ne : b ≠ a := fun e => hf o u (e ▸ h)
    rw [upd_ne ne]; exact h⟩
theorem Ext.fresh {o' : HO} (hn : H p = none) : Ext K ρ H ρ (upd H p o') :=
  Ext.soft (fun _ _ h => h) (fun _ q => by rw [hn] at q; cases q) fun _ _ q => by rw [hn] at q; cases q
theorem Rl.addr (r : Rl K ct ρ M H) {n : Nat} (h : ρ[n]? = some a) : ∃ o, M[n]? = some o ∧ ObOk K ct ρ H a o := by
  have hl : n < M.length := by
    rw [← r.len]
    exact (List.getElem?_eq_some_iff.mp h).1
  obtain ⟨b, h1, h2⟩ := r.ok n M[n] (List.getElem?_eq_getElem hl)
  rw [h] at h1; cases h1
  exact ⟨_, List.getElem?_eq_getElem hl, h2⟩
theorem Rl.ne (r : Rl K ct ρ M H) {n : Nat} (h : ρ[n]? = some a) (hn : H p = none) : a ≠ p := by
  obtain ⟨o, _, q⟩ := r.addr h
  intro e; subst e
  exact q.there hn
theorem Rl.tup (r : Rl K ct ρ M H) (hn : H p = none) (o' : HO) : Rl K ct ρ M (upd H p o') :=
  ⟨r.len, r.nd, fun n o h => by
    obtain ⟨b, h1, h2⟩ := r.ok n o h
    exact ⟨b, h1, h2.mono (Ext.fresh hn) (upd_ne (r.ne h1 hn))⟩⟩
theorem pre_app {p : Addr} : ∀ (n : Nat) (a : Addr), ρ[n]? = some a → (ρ ++ [p])[n]? = some a := fun n a h => by
  rw [List.getElem?_append_left (List.getElem?_eq_some_iff.mp h).1]; exact h
theorem Rl.notin (r : Rl K ct ρ M H) (hn : H p = none) : p ∉ ρ := fun hm => by
  obtain ⟨n, hn'⟩ := List.getElem?_of_mem hm
  exact r.ne hn' hn rfl
/-- a new cell -/
theorem Rl.new (r : Rl K ct ρ M H) {o : Ob} {o' : HO} (hn : H p = none) (ho : ObOk K ct (ρ ++ [p]) (upd H p o') p o) :
    Rl K ct (ρ ++ [p]) (M ++ [o]) (upd H p o') ∧ Ext K ρ H (ρ ++ [p]) (upd H p o') ∧ (ρ ++ [p])[M.length]? = some p := by
  have ex : Ext K ρ H (ρ ++ [p]) (upd H p o') := Ext.soft pre_app (fun _ q => by rw [hn] at q; cases q) fun _ _ q => by rw [hn] at q; cases q
  refine ⟨⟨by simp [r.len], ?_, fun n x h => ?_⟩, ex, by rw [← r.len]; simp⟩
  · rw [List.nodup_append]
    refine ⟨r.nd, by simp, fun x hx y hy e => ?_⟩
    have e2 : y = p := by simpa using hy
    subst e2; subst e
    exact r.notin hn hx
  · by_cases hl : n < M.length
    · rw [List.getElem?_append_left hl] at h
      obtain ⟨b, h1, h2⟩ := r.ok n x h
      exact ⟨b, pre_app n b h1, h2.mono ex (upd_ne (r.ne h1 hn))⟩
    · have hl2 : n = M.length := by
        have := (List.getElem?_eq_some_iff.mp h).1
        simp at this; omega
      subst hl2
      simp at h; subst h
      exact ⟨p, by rw [← r.len]; simp, ho⟩
/-- a cell written -/
theorem Rl.put (r : Rl K ct ρ M H) {n : Nat} {o : Ob} {o' x : HO} (h : ρ[n]? = some a) (hx : H a = some x) (ho : ObOk K ct ρ (upd H a o') a o) (hs : softH x = true := by rfl) :
    Rl K ct ρ (M.set n o) (upd H a o') ∧ Ext K ρ H ρ (upd H a o') := by
  obtain ⟨oo, hm, hk⟩ := r.addr h
  have ex : Ext K ρ H ρ (upd H a o') := Ext.soft (fun _ _ h => h) (soft_of hx hs).1 (soft_of hx hs).2
  refine ⟨⟨by simp [r.len], r.nd, fun m x hx => ?_⟩, ex⟩
  by_cases hmn : n = m
  · subst hmn
    rw [List.getElem?_set, if_pos rfl] at hx
    have hl := (List.getElem?_eq_some_iff.mp hm).1
    rw [if_pos hl] at hx
    cases hx
    exact ⟨a, h, ho⟩
  · rw [List.getElem?_set_ne hmn] at hx
    obtain ⟨b, h1, h2⟩ := r.ok m x hx
    refine ⟨b, h1, h2.mono ex (upd_ne fun e => ?_)⟩
    subst e
    obtain ⟨i1, e1⟩ := List.getElem?_eq_some_iff.mp h1
    obtain ⟨i2, e2⟩ := List.getElem?_eq_some_iff.mp h
    exact hmn ((List.getElem_inj r.nd).mp (e2.trans e1.symm))
theorem Rl.newL (r : Rl K ct ρ M H) {ds : List Dv} {vs : List V} (hn : H p = none) (hd : DVs K ρ H ds vs) :
    Rl K ct (ρ ++ [p]) (M ++ [.lst ds]) (upd H p (.lst vs)) ∧ Ext K ρ H (ρ ++ [p]) (upd H p (.lst vs)) ∧ (ρ ++ [p])[M.length]? = some p := by
  refine r.new hn ⟨vs, upd_same, hd.mono (Ext.soft pre_app (fun _ q => by rw [hn] at q; cases q) fun _ _ q => by rw [hn] at q; cases q)⟩
theorem Rl.putL (r : Rl K ct ρ M H) {n : Nat} {ds : List Dv} {vs ws : List V} (h : ρ[n]? = some a) (hx : H a = some (.lst ws)) (hd : DVs K ρ H ds vs) :
    Rl K ct ρ (M.set n (.lst ds)) (upd H a (.lst vs)) ∧ Ext K ρ H ρ (upd H a (.lst vs)) := by
  obtain ⟨oo, hm, hk⟩ := r.addr h
  exact r.put h hx ⟨vs, upd_same, hd.mono (Ext.soft (fun _ _ h => h) (soft_of hx rfl).1 (soft_of hx rfl).2)⟩
theorem Rl.lst (r : Rl K ct ρ M H) {n : Nat} {ds : List Dv} (hm : M[n]? = some (.lst ds)) {v : V} (hv : DV K ρ H (.loc n) v) :
    ∃ a vs, v = .ref a ∧ ρ[n]? = some a ∧ H a = some (.lst vs) ∧ DVs K ρ H ds vs := by
  obtain ⟨a, h1, vs, h2, h3⟩ := r.ok n _ hm
  cases hv with
  | loc h => rw [h] at h1; cases h1; exact ⟨_, vs, rfl, h, h2, h3⟩
end

/-! ## The judgements -/
def bnd {α β : Type} (r : Option (α × Mem)) (k : α → Mem → Option (β × Mem)) : Option (β × Mem) :=
  match r with
  | none => none
  | some (a, M) => k a M
theorem bnd_some {α β : Type} {r : Option (α × Mem)} {k : α → Mem → Option (β × Mem)} {y : β × Mem} (h : bnd r k = some y) : ∃ a M, r = some (a, M) ∧ k a M = some y := by
  cases r with
  | none => cases h
  | some p => exact ⟨p.1, p.2, rfl, h⟩

abbrev FE := En → Mem → Option (Dv × Mem)
abbrev FT := En → Mem → Option (Bool × Mem)
abbrev FA := En → Mem → Option (List Dv × Mem)

section
variable (K : Frg) (ct : Ct)
/-- what must follow: the end (d, M') and all that may stand for it -/
def Aft (ρ : List Addr) (H : Hp) (M' : Mem) (Z : List Addr → Hp → Prop) : Prop := ∀ ρ' H', Ext K ρ H ρ' H' → Rl K ct ρ' M' H' → Z ρ' H'
def tE (f : FE) : TE := fun σ H Q => ∃ ρ M env, Rl K ct ρ M H ∧ EnOk K ρ H env σ ∧ ∃ d M', f env M = some (d, M') ∧ Aft K ct ρ H M' fun ρ' H' => ∀ v, DV K ρ' H' d v → Q v H'
def tT (f : FT) : TT := fun σ H Q => ∃ ρ M env, Rl K ct ρ M H ∧ EnOk K ρ H env σ ∧ ∃ b M', f env M = some (b, M') ∧ Aft K ct ρ H M' fun _ H' => Q b H'
def tA (f : FA) : TA := fun σ H Q => ∃ ρ M env, Rl K ct ρ M H ∧ EnOk K ρ H env σ ∧ ∃ ds M', f env M = some (ds, M') ∧ Aft K ct ρ H M' fun ρ' H' => ∀ vs, DVs K ρ' H' ds vs → Q vs H'
def tO (h : Dv → Dv → Mem → Option (Dv × Mem)) : R2 := fun x y H Q => ∃ ρ M d e, Rl K ct ρ M H ∧ DV K ρ H d x ∧ DV K ρ H e y ∧ ∃ z M', h d e M = some (z, M') ∧ Aft K ct ρ H M' fun ρ' H' => ∀ v, DV K ρ' H' z v → Q v H'
def tU (h : Dv → Mem → Option (Dv × Mem)) : V → Hp → VK → Prop := fun x H Q => ∃ ρ M d, Rl K ct ρ M H ∧ DV K ρ H d x ∧ ∃ z M', h d M = some (z, M') ∧ Aft K ct ρ H M' fun ρ' H' => ∀ v, DV K ρ' H' z v → Q v H'
def tC (h : List Dv → Mem → Option (Dv × Mem)) : List V → Hp → VK → Prop := fun xs H Q => ∃ ρ M ds, Rl K ct ρ M H ∧ DVs K ρ H ds xs ∧ ∃ z M', h ds M = some (z, M') ∧ Aft K ct ρ H M' fun ρ' H' => ∀ v, DV K ρ' H' z v → Q v H'
end
theorem Aft.later {K : Frg} {ct : Ct} {ρ ρ1 : List Addr} {H H1 : Hp} {M' : Mem} {Z : List Addr → Hp → Prop} (h : Aft K ct ρ H M' Z) (e : Ext K ρ H ρ1 H1) : Aft K ct ρ1 H1 M' Z := fun ρ' H' x r => h ρ' H' (e.trans x) r

abbrev SE (X : Cx) (ct : Ct) (e : Expr) (f : FE) : Prop := PE X e (tE X.K ct f)
abbrev ST (X : Cx) (ct : Ct) (e : Expr) (f : FT) : Prop := PT X e (tT X.K ct f)
abbrev SW (X : Cx) (ct : Ct) (e : Expr) (f : FT) : Prop := PW X e (tT X.K ct f)
abbrev SA (X : Cx) (ct : Ct) (es : List Expr) (f : FA) : Prop := PA X es (tA X.K ct f)
abbrev SO (X : Cx) (ct : Ct) (g : Value → Value → Sem Value) (h : Dv → Dv → Mem → Option (Dv × Mem)) : Prop := OpR X g (tO X.K ct h)
abbrev SU (X : Cx) (ct : Ct) (g : Value → Sem Value) (h : Dv → Mem → Option (Dv × Mem)) : Prop := UnR X g (tU X.K ct h)
abbrev SC (X : Cx) (ct : Ct) (g : Value) (h : List Dv → Mem → Option (Dv × Mem)) : Prop := CallR X g (tC X.K ct h)

section
variable {X : Cx} {ct : Ct} {e a b c : Expr} {pos : Pos}
theorem PE.imp {t t' : TE} (h : PE X e t) (k : ∀ σ H Q, t' σ H Q → t σ H Q) : PE X e t' := ⟨fun pins s σ H Q I w => h.run pins s σ H Q I (k σ H Q w)⟩
theorem PT.imp {t t' : TT} (h : PT X e t) (k : ∀ σ H Q, t' σ H Q → t σ H Q) : PT X e t' := ⟨fun pins s σ H Q I w => h.run pins s σ H Q I (k σ H Q w)⟩
theorem PW.imp {t t' : TT} (h : PW X e t) (k : ∀ σ H Q, t' σ H Q → t σ H Q) : PW X e t' := ⟨fun wh pins s σ H Q I w => h.run wh pins s σ H Q I (k σ H Q w)⟩
theorem PA.imp {es : List Expr} {t t' : TA} (h : PA X es t) (k : ∀ σ H Q, t' σ H Q → t σ H Q) : PA X es t' := ⟨fun pos pins s σ H Q I w => h.run pos pins s σ H Q I (k σ H Q w)⟩

/-! ### names and constants -/
def fV (i : Nat) : FE := fun env M => match env[i]? with
  | some (some d) => some (d, M)
  | _ => none
def fK (d : Dv) : FE := fun _ M => some (d, M)
theorem tE.const {d : Dv} {v : V} {σ : St} {H : Hp} {Q : VK} (hv : ∀ ρ H, DV X.K ρ H d v) (h : tE X.K ct (fK d) σ H Q) : Q v H := by
  obtain ⟨ρ, M, env, r, he, d', M', hf, hq⟩ := h
  cases hf
  exact hq ρ H .refl r v (hv ρ H)
theorem se_var {i : Nat} {x : Str} (hN : X.N[i]? = some x) (hv : Vis X.env.scope x) (hd : (x == ("__debug__" : Str)) = false := by decide) (hcd : (x == ("__classdict__" : Str)) = false := by decide) : SE X ct (.Name x pos) (fV i) :=
  PE.imp (pe_var hN hv hd hcd) fun σ H Q ⟨ρ, M, env, r, he, d, M', hf, hq⟩ => by
    unfold fV at hf
    split at hf
    · rename_i d' e'
      cases hf
      obtain ⟨v, h1, h2⟩ := he.2 i _ e'
      exact ⟨v, h1, hq ρ H .refl r v h2⟩
    · cases hf
theorem se_int {i j} : SE X ct (.Constant (.int i) j pos) (fK (.int i)) := PE.imp pe_int fun _ _ _ h => tE.const (fun _ _ => .int i) h
theorem se_bl {b j} : SE X ct (.Constant (.bool b) j pos) (fK (.bl b)) := PE.imp pe_bl fun _ _ _ h => tE.const (fun _ _ => .bl b) h
theorem se_non {j} : SE X ct (.Constant .none j pos) (fK .non) := PE.imp pe_non fun _ _ _ h => tE.const (fun _ _ => .non) h
theorem se_str {x j} : SE X ct (.Constant (.str x) j pos) (fK (.str x)) := PE.imp pe_str fun _ _ _ h => tE.const (fun _ _ => .str x) h
/-- a module's constant -/
theorem se_glob {x : Str} {d : Dv} {v : V} {u : Value} (hg : Gl X x) (hm : X.mg x = some u) (r : RelV v u) (hv : ∀ ρ H, DV X.K ρ H d v) (hd : (x == ("__debug__" : Str)) = false := by decide) : SE X ct (.Name x pos) (fK d) :=
  PE.imp (pe_glob hg hm r hd) fun _ _ _ h => tE.const hv h

/-! ### operators -/
def fO (h : Dv → Dv → Mem → Option (Dv × Mem)) (fa fb : FE) : FE := fun env M => bnd (fa env M) fun x M1 => bnd (fb env M1) fun y M2 => h x y M2
def fU (h : Dv → Mem → Option (Dv × Mem)) (fa : FE) : FE := fun env M => bnd (fa env M) h
variable {fa fb fc : FE} {h : Dv → Dv → Mem → Option (Dv × Mem)}
theorem op_imp {σ : St} {H : Hp} {Q : VK} (w : tE X.K ct (fO h fa fb) σ H Q) : tOp (tO X.K ct h) (tE X.K ct fa) (tE X.K ct fb) σ H Q := by
  obtain ⟨ρ, M, env, r, he, d, M', hf, hq⟩ := w
  obtain ⟨x, M1, h1, hf⟩ := bnd_some hf
  obtain ⟨y, M2, h2, h3⟩ := bnd_some hf
  exact ⟨ρ, M, env, r, he, x, M1, h1, fun ρ1 H1 e1 r1 v dv => ⟨ρ1, M1, env, r1, he.mono e1, y, M2, h2, fun ρ2 H2 e2 r2 w dw => ⟨ρ2, M2, x, y, r2, dv.mono e2, dw, d, M', h3, hq.later (e1.trans e2)⟩⟩⟩
theorem se_op {op : Operator} (ho : SO X ct (binaryOp op) h) (ha : SE X ct a fa) (hb : SE X ct b fb) : SE X ct (.BinOp a op b pos) (fO h fa fb) :=
  PE.imp (pe_op ho ha hb) fun _ _ _ w => op_imp w
theorem se_cmp {op : CmpOp} (ho : SO X ct (compareOp op) h) (ha : SE X ct a fa) (hb : SE X ct b fb) (hm : behindInMarks op b = false) : SE X ct (.Compare a [op] [b] pos) (fO h fa fb) :=
  PE.imp (pe_cmpR ho ha hb hm) fun _ _ _ w => op_imp w
theorem se_un {op : UnaryOp} {h : Dv → Mem → Option (Dv × Mem)} (ho : SU X ct (unaryOp op) h) (ha : SE X ct a fa) : SE X ct (.UnaryOp op a pos) (fU h fa) :=
  PE.imp (pe_un ho ha) fun σ H Q ⟨ρ, M, env, r, he, d, M', hf, hq⟩ => by
    obtain ⟨x, M1, h1, hf⟩ := bnd_some hf
    exact ⟨ρ, M, env, r, he, x, M1, h1, fun ρ1 H1 e1 r1 v dv => ⟨ρ1, M1, x, r1, dv, d, M', hf, hq.later e1⟩⟩
/-- a < b < c -/
def fChain (h h' : Dv → Dv → Mem → Option (Dv × Mem)) (fa fb fc : FE) : FE := fun env M => bnd (fa env M) fun x M1 => bnd (fb env M1) fun y M2 => bnd (h x y M2) fun z M3 =>
  match z with
  | .bl true => bnd (fc env M3) fun w M4 => h' y w M4
  | .bl false => some (.bl false, M3)
  | _ => none
theorem se_chain {op op' : CmpOp} {h' : Dv → Dv → Mem → Option (Dv × Mem)} (ho : SO X ct (compareOp op) h) (ho' : SO X ct (compareOp op') h') (ha : SE X ct a fa) (hb : SE X ct b fb) (hc : SE X ct c fc)
    (hm : lastMarks [op, op'] [b, c] = false := by with_unfolding_all rfl) : SE X ct (.Compare a [op, op'] [b, c] pos) (fChain h h' fa fb fc) :=
  PE.imp (pe_chain ho ho' ha hb hc hm) fun σ H Q ⟨ρ, M, env, r, he, d, M', hf, hq⟩ => by
    obtain ⟨x, M1, h1, hf⟩ := bnd_some hf
    obtain ⟨y, M2, h2, hf⟩ := bnd_some hf
    obtain ⟨z, M3, h3, hf⟩ := bnd_some hf
    refine ⟨ρ, M, env, r, he, x, M1, h1, fun ρ1 H1 e1 r1 v dv => ⟨ρ1, M1, env, r1, he.mono e1, y, M2, h2, fun ρ2 H2 e2 r2 w dw => ⟨ρ2, M2, x, y, r2, dv.mono e2, dw, z, M3, h3, fun ρ3 H3 e3 r3 u du => ?_⟩⟩⟩
    split at hf
    · cases du
      obtain ⟨t, M4, h4, hf⟩ := bnd_some hf
      refine ⟨true, rfl, ?_⟩
      rw [if_pos rfl]
      exact ⟨ρ3, M3, env, r3, ((he.mono e1).mono e2).mono e3, t, M4, h4, fun ρ4 H4 e4 r4 u4 du4 => ⟨ρ4, M4, y, t, r4, (dw.mono e3).mono e4, du4, d, M', hf, hq.later (((e1.trans e2).trans e3).trans e4)⟩⟩
    · cases du
      cases hf
      refine ⟨false, rfl, ?_⟩
      rw [if_neg (by decide)]
      exact hq ρ3 H3 ((e1.trans e2).trans e3) r3 _ (.bl false)
    · cases hf
end
end Zl

/-! text Z2 -/
namespace Zl
open PySem L2

section
variable {X : Cx} {ct : Ct} {e a b c : Expr} {pos : Pos} {fa fb fc : FE} {ft fu : FT} {rest : List Expr}
/-! ### tests -/
/-- a value that is a bool, as a test -/
def fB (f : FE) : FT := fun env M => bnd (f env M) fun d M1 => match d with
  | .bl b => some (b, M1)
  | _ => none
theorem b_imp {t : TE} {σ : St} {H : Hp} {Q : Bool → Hp → Prop} (w : tT X.K ct (fB fa) σ H Q) : tTest (tE X.K ct fa) σ H Q := by
  obtain ⟨ρ, M, env, r, he, d, M', hf, hq⟩ := w
  obtain ⟨x, M1, h1, hf⟩ := bnd_some hf
  split at hf
  · cases hf
    exact ⟨ρ, M, env, r, he, _, _, h1, fun ρ1 H1 e1 r1 v dv => by cases dv; exact ⟨_, rfl, hq ρ1 H1 e1 r1⟩⟩
  · cases hf
theorem st_val (h : SE X ct e fa) (he : ∀ whole, isTrue e X.env whole = (do let v ← whole; standAt e.pos; holding [v] (truthy v)) := by intro _; rfl) : ST X ct e (fB fa) :=
  PT.imp (pt_val h he) fun _ _ _ w => b_imp (t := tE X.K ct fa) w
theorem st_cmp {op : CmpOp} {h : Dv → Dv → Mem → Option (Dv × Mem)} (ho : SO X ct (compareOp op) h) (ha : SE X ct a fa) (hb : SE X ct b fb) (hm : behindInMarks op b = false) : ST X ct (.Compare a [op] [b] pos) (fB (fO h fa fb)) :=
  PT.imp (pt_cmpR ho ha hb hm) fun σ H Q w => by
    obtain ⟨ρ, M, env, r, he, d, M', hf, hq⟩ := w
    obtain ⟨x, M1, h1, hf⟩ := bnd_some hf
    split at hf
    · cases hf
      exact op_imp ⟨ρ, M, env, r, he, _, _, h1, fun ρ1 H1 e1 r1 v dv => by cases dv; exact ⟨_, rfl, hq ρ1 H1 e1 r1⟩⟩
    · cases hf
theorem st_chain {op op' : CmpOp} {h h' : Dv → Dv → Mem → Option (Dv × Mem)} (ho : SO X ct (compareOp op) h) (ho' : SO X ct (compareOp op') h') (ha : SE X ct a fa) (hb : SE X ct b fb) (hc : SE X ct c fc)
    (hm : lastMarks [op, op'] [b, c] = false := by with_unfolding_all rfl) : ST X ct (.Compare a [op, op'] [b, c] pos) (fB (fChain h h' fa fb fc)) := by
  refine PT.imp (pt_chain ho ho' ha hb hc hm) fun σ H Q w => ?_
  obtain ⟨ρ, M, env, r, he, d, M', hf, hq⟩ := w
  obtain ⟨x0, M0, h0, hf0⟩ := bnd_some hf
  have hz : ∃ k, x0 = Dv.bl k ∧ d = k ∧ M' = M0 := by
    split at hf0
    · cases hf0; exact ⟨_, rfl, rfl, rfl⟩
    · cases hf0
  obtain ⟨k, rfl, rfl, rfl⟩ := hz
  obtain ⟨x, M1, h1, h0⟩ := bnd_some h0
  obtain ⟨y, M2, h2, h0⟩ := bnd_some h0
  obtain ⟨z, M3, h3, h0⟩ := bnd_some h0
  refine ⟨ρ, M, env, r, he, x, M1, h1, fun ρ1 H1 e1 r1 v dv => ⟨ρ1, M1, env, r1, he.mono e1, y, M2, h2, fun ρ2 H2 e2 r2 w dw => ⟨ρ2, M2, x, y, r2, dv.mono e2, dw, z, M3, h3, fun ρ3 H3 e3 r3 u du => ?_⟩⟩⟩
  split at h0
  · cases du
    obtain ⟨t, M4, h4, h0⟩ := bnd_some h0
    refine ⟨true, rfl, ?_⟩
    rw [if_pos rfl]
    exact ⟨ρ3, M3, env, r3, ((he.mono e1).mono e2).mono e3, t, M4, h4, fun ρ4 H4 e4 r4 u4 du4 => ⟨ρ4, M4, y, t, r4, (dw.mono e3).mono e4, du4, _, _, h0, fun ρ5 H5 e5 r5 u5 du5 => by
      cases du5
      exact ⟨_, rfl, hq ρ5 H5 ((((e1.trans e2).trans e3).trans e4).trans e5) r5⟩⟩⟩
  · cases du
    cases h0
    refine ⟨false, rfl, ?_⟩
    rw [if_neg (by decide)]
    exact ⟨_, rfl, hq ρ3 H3 ((e1.trans e2).trans e3) r3⟩
  · cases h0
/-- a value's truth -/
def fTr (f : FE) : FT := fun env M => bnd (f env M) fun d M1 => match d with
  | .non => some (false, M1)
  | .bl b => some (b, M1)
  | .int i => some (i != 0, M1)
  | .str x => if x.length ≤ sizeLine then some ((x.length : Int) != 0, M1) else none
  | .tup xs => some (!xs.isEmpty, M1)
  | .rol xs => some (!xs.isEmpty, M1)
  | .loc n => match M1[n]? with
    | some (.lst xs) => some (!xs.isEmpty, M1)
    | _ => none
  | _ => none
theorem isEmpty_dvs {K : Frg} {ρ : List Addr} {H : Hp} {ds : List Dv} {vs : List V} (h : DVs K ρ H ds vs) : vs.isEmpty = ds.isEmpty := by cases h <;> rfl
theorem st_truth (h : SE X ct e fa) (he : ∀ whole, isTrue e X.env whole = (do let v ← whole; standAt e.pos; holding [v] (truthy v)) := by intro _; rfl) : ST X ct e (fTr fa) :=
  PT.imp (pt_truth h he) fun σ H Q ⟨ρ, M, env, r, hen, d, M', hf, hq⟩ => by
    obtain ⟨x, M1, h1, hf⟩ := bnd_some hf
    refine ⟨ρ, M, env, r, hen, x, M1, h1, fun ρ1 H1 e1 r1 v dv => ?_⟩
    cases x with
    | non => cases hf; cases dv; exact ⟨_, rfl, hq ρ1 H1 e1 r1⟩
    | bl b => cases hf; cases dv; exact ⟨_, rfl, hq ρ1 H1 e1 r1⟩
    | int i => cases hf; cases dv; exact ⟨_, rfl, hq ρ1 H1 e1 r1⟩
    | str x =>
      dsimp only at hf
      split at hf
      · rename_i hl
        cases hf; cases dv; exact ⟨_, ⟨hl, rfl⟩, hq ρ1 H1 e1 r1⟩
      · cases hf
    | tup xs =>
      cases hf
      cases dv with
      | tup hs hd => exact ⟨_, .inr (.inl ⟨_, hs.sq, by rw [isEmpty_dvs hd]⟩), hq ρ1 H1 e1 r1⟩
    | rol xs =>
      cases hf
      cases dv with
      | rol hs hd => exact ⟨_, .inl ⟨_, hs.sq, by rw [isEmpty_dvs hd]⟩, hq ρ1 H1 e1 r1⟩
    | loc n =>
      dsimp only at hf
      split at hf
      · rename_i xs hm
        cases hf
        obtain ⟨a, vs, rfl, h2, h3, h4⟩ := r1.lst hm dv
        exact ⟨_, .inl ⟨vs, SqL.of h3, by rw [isEmpty_dvs h4]⟩, hq ρ1 H1 e1 r1⟩
      · cases hf
    | ty n => cases hf
    | pr xs => cases hf
/-- not -/
def fNotT (f : FT) : FT := fun env M => bnd (f env M) fun b M1 => some (!b, M1)
theorem st_not (h : ST X ct a ft) : ST X ct (.UnaryOp .Not a pos) (fNotT ft) :=
  PT.imp (pt_not h) fun σ H Q ⟨ρ, M, env, r, he, d, M', hf, hq⟩ => by
    obtain ⟨x, M1, h1, hf⟩ := bnd_some hf
    cases hf
    exact ⟨ρ, M, env, r, he, x, _, h1, fun ρ1 H1 e1 r1 => hq ρ1 H1 e1 r1⟩
def fAndT (f g : FT) : FT := fun env M => bnd (f env M) fun b M1 => if b then g env M1 else some (false, M1)
def fOrT (f g : FT) : FT := fun env M => bnd (f env M) fun b M1 => if b then some (true, M1) else g env M1
theorem sw_and1 (h : ST X ct a ft) : SW X ct (.BoolOp .And [a] pos) ft := pw_and1 h
theorem sw_or1 (h : ST X ct a ft) : SW X ct (.BoolOp .Or [a] pos) ft := pw_or1 h
theorem sw_and (h : ST X ct a ft) (k : SW X ct (.BoolOp .And (b :: rest) pos) fu) : SW X ct (.BoolOp .And (a :: b :: rest) pos) (fAndT ft fu) :=
  PW.imp (pw_and h k) fun σ H Q ⟨ρ, M, env, r, he, d, M', hf, hq⟩ => by
    obtain ⟨x, M1, h1, hf⟩ := bnd_some hf
    refine ⟨ρ, M, env, r, he, x, M1, h1, fun ρ1 H1 e1 r1 => ?_⟩
    cases x with
    | true =>
      rw [if_pos rfl]
      exact ⟨ρ1, M1, env, r1, he.mono e1, d, M', hf, hq.later e1⟩
    | false =>
      cases hf
      rw [if_neg (by decide)]
      exact hq ρ1 H1 e1 r1
theorem sw_or (h : ST X ct a ft) (k : SW X ct (.BoolOp .Or (b :: rest) pos) fu) : SW X ct (.BoolOp .Or (a :: b :: rest) pos) (fOrT ft fu) :=
  PW.imp (pw_or h k) fun σ H Q ⟨ρ, M, env, r, he, d, M', hf, hq⟩ => by
    obtain ⟨x, M1, h1, hf⟩ := bnd_some hf
    refine ⟨ρ, M, env, r, he, x, M1, h1, fun ρ1 H1 e1 r1 => ?_⟩
    cases x with
    | false =>
      rw [if_neg (by decide)]
      exact ⟨ρ1, M1, env, r1, he.mono e1, d, M', hf, hq.later e1⟩
    | true =>
      cases hf
      rw [if_pos rfl]
      exact hq ρ1 H1 e1 r1
theorem SW.st (h : SW X ct e ft) : ST X ct e ft := PW.pt h
/-! ### as values: all but the last one bools -/
def fAndV (f g : FE) : FE := fun env M => bnd (f env M) fun d M1 => match d with
  | .bl true => g env M1
  | .bl false => some (.bl false, M1)
  | _ => none
def fOrV (f g : FE) : FE := fun env M => bnd (f env M) fun d M1 => match d with
  | .bl true => some (.bl true, M1)
  | .bl false => g env M1
  | _ => none
theorem se_one {op} (h : SE X ct a fa) : SE X ct (.BoolOp op [a] pos) fa := pe_one h
theorem se_and (h : SE X ct a fa) (k : SE X ct (.BoolOp .And (b :: rest) pos) fb) : SE X ct (.BoolOp .And (a :: b :: rest) pos) (fAndV fa fb) :=
  PE.imp (pe_and h k) fun σ H Q ⟨ρ, M, env, r, he, d, M', hf, hq⟩ => by
    obtain ⟨x, M1, h1, hf⟩ := bnd_some hf
    refine ⟨ρ, M, env, r, he, x, M1, h1, fun ρ1 H1 e1 r1 v dv => ?_⟩
    split at hf
    · cases dv
      refine ⟨true, rfl, ?_⟩
      rw [if_pos rfl]
      exact ⟨ρ1, M1, env, r1, he.mono e1, d, M', hf, hq.later e1⟩
    · cases dv; cases hf
      refine ⟨false, rfl, ?_⟩
      rw [if_neg (by decide)]
      exact hq ρ1 H1 e1 r1 _ (.bl false)
    · cases hf
theorem se_or (h : SE X ct a fa) (k : SE X ct (.BoolOp .Or (b :: rest) pos) fb) : SE X ct (.BoolOp .Or (a :: b :: rest) pos) (fOrV fa fb) :=
  PE.imp (pe_or h k) fun σ H Q ⟨ρ, M, env, r, he, d, M', hf, hq⟩ => by
    obtain ⟨x, M1, h1, hf⟩ := bnd_some hf
    refine ⟨ρ, M, env, r, he, x, M1, h1, fun ρ1 H1 e1 r1 v dv => ?_⟩
    split at hf
    · cases dv; cases hf
      refine ⟨true, rfl, ?_⟩
      rw [if_pos rfl]
      exact hq ρ1 H1 e1 r1 _ (.bl true)
    · cases dv
      refine ⟨false, rfl, ?_⟩
      rw [if_neg (by decide)]
      exact ⟨ρ1, M1, env, r1, he.mono e1, d, M', hf, hq.later e1⟩
    · cases hf
def fNotV (f : FE) : FE := fun env M => bnd (f env M) fun d M1 => match d with
  | .bl b => some (.bl (!b), M1)
  | _ => none
theorem se_not (h : SE X ct a fa) : SE X ct (.UnaryOp .Not a pos) (fNotV fa) :=
  PE.imp (pe_not h) fun σ H Q ⟨ρ, M, env, r, he, d, M', hf, hq⟩ => by
    obtain ⟨x, M1, h1, hf⟩ := bnd_some hf
    refine ⟨ρ, M, env, r, he, x, M1, h1, fun ρ1 H1 e1 r1 v dv => ?_⟩
    split at hf
    · cases dv; cases hf
      exact ⟨_, rfl, hq ρ1 H1 e1 r1 _ (.bl _)⟩
    · cases hf
def fIf (f : FT) (g h : FE) : FE := fun env M => bnd (f env M) fun b M1 => if b then g env M1 else h env M1
theorem se_if (hc : ST X ct c ft) (ha : SE X ct a fa) (hb : SE X ct b fb) : SE X ct (.IfExp c a b pos) (fIf ft fa fb) :=
  PE.imp (pe_ifExp hc ha hb) fun σ H Q ⟨ρ, M, env, r, he, d, M', hf, hq⟩ => by
    obtain ⟨x, M1, h1, hf⟩ := bnd_some hf
    refine ⟨ρ, M, env, r, he, x, M1, h1, fun ρ1 H1 e1 r1 => ?_⟩
    cases x with
    | true =>
      rw [if_pos rfl]
      exact ⟨ρ1, M1, env, r1, he.mono e1, d, M', hf, hq.later e1⟩
    | false =>
      rw [if_neg (by decide)]
      exact ⟨ρ1, M1, env, r1, he.mono e1, d, M', hf, hq.later e1⟩

/-! ### argument lists, displays -/
variable {es : List Expr} {fr : FA}
def fNil : FA := fun _ M => some ([], M)
def fCons (f : FE) (g : FA) : FA := fun env M => bnd (f env M) fun d M1 => bnd (g env M1) fun ds M2 => some (d :: ds, M2)
theorem sa_nil : SA X ct [] fNil := PA.imp pa_nil fun σ H Q ⟨ρ, M, env, r, he, d, M', hf, hq⟩ => by
  cases hf
  exact hq ρ H .refl r _ .nil
theorem sa_cons (h : SE X ct e fa) (k : SA X ct es fr) (hs : starEach (e :: es) X.env = (false, eval e X.env) :: starEach es X.env := by rfl) : SA X ct (e :: es) (fCons fa fr) :=
  PA.imp (pa_cons h k hs) fun σ H Q ⟨ρ, M, env, r, he, d, M', hf, hq⟩ => by
    obtain ⟨x, M1, h1, hf⟩ := bnd_some hf
    obtain ⟨ys, M2, h2, hf⟩ := bnd_some hf
    cases hf
    exact ⟨ρ, M, env, r, he, x, M1, h1, fun ρ1 H1 e1 r1 v dv => ⟨ρ1, M1, env, r1, he.mono e1, ys, _, h2, fun ρ2 H2 e2 r2 vs dvs => hq ρ2 H2 (e1.trans e2) r2 _ (.cons (dv.mono e2) dvs)⟩⟩
/-- *e ahead of the rest -/
def fStar (f : FE) (g : FA) : FA := fun env M => bnd (f env M) fun d M1 => match d with
  | .tup xs => bnd (g env M1) fun ds M2 => some (xs ++ ds, M2)
  | _ => none
def fTup (f : FA) : FE := fun env M => bnd (f env M) fun ds M1 => if ds.length ≤ sizeLine then some (.tup ds, M1) else none
def fLst (f : FA) : FE := fun env M => bnd (f env M) fun ds M1 => if ds.length ≤ sizeLine then some (.loc M1.length, M1 ++ [.lst ds]) else none
/-- a new tuple, locked -/
theorem layT {pins : List (Addr × Obj)} {σ : St} {H : Hp} {s : Shared} {xs : List V} {us : List Value} {tk : Nat} (I : Inv X pins σ H s) (r : Vals xs us) (hz : xs.length ≤ sizeLine) :
    Inv X pins σ (upd H s.heap.objs.size (.frz { cls := .type "tuple", data := .seq us.toArray } (.tup xs))) { s with heap := s.heap.push { cls := .type "tuple", data := .seq us.toArray }, toks := tk } :=
  I.laid (fun _ _ q => Heap.get?_push_of_some _ q) (Nat.le_refl _) ⟨Heap.get?_push_size _ rfl, hz, us, r, PyProof.Rows.IsTup.new _ _⟩
theorem pe_tupF {x1} {t : TA} (h : PA X es t) : PE X (.Tuple es x1 pos) (fun σ H Q => t σ H fun xs H1 => xs.length ≤ sizeLine ∧ ∀ p o, H1 p = none → o.dict = none → Q (.ref p) (upd H1 p (.frz o (.tup xs)))) :=
  ⟨fun pins s σ H Q I hq => wpAny_Tuple_spliced (thn (h.run pos pins s σ H _ I hq) fun us s1 ⟨xs, H1, I1, r, z, q⟩ => ⟨r.length ▸ z,
    ⟨V.ref s1.heap.objs.size, _, layT (tk := s1.toks) I1 r z, rfl, q _ _ (I1.hok.fresh (Nat.le_refl _)) rfl⟩⟩)⟩
theorem se_tup {x1} (h : SA X ct es fr) : SE X ct (.Tuple es x1 pos) (fTup fr) :=
  PE.imp (pe_tupF h) fun σ H Q ⟨ρ, M, env, r, he, d, M', hf, hq⟩ => by
    obtain ⟨ys, M1, h1, hf⟩ := bnd_some hf
    split at hf
    · rename_i hl
      cases hf
      refine ⟨ρ, M, env, r, he, ys, _, h1, fun ρ1 H1 e1 r1 vs dvs => ⟨by rw [← dvs.length]; exact hl, fun p o hp ho => ?_⟩⟩
      exact hq ρ1 _ (e1.trans (Ext.fresh hp)) (r1.tup hp _) _ (.tup (TupD.new ho) (dvs.mono (Ext.fresh hp)))
    · cases hf
theorem se_lst (h : SA X ct es fr) : SE X ct (.List es pos) (fLst fr) :=
  PE.imp (pe_lst h) fun σ H Q ⟨ρ, M, env, r, he, d, M', hf, hq⟩ => by
    obtain ⟨ys, M1, h1, hf⟩ := bnd_some hf
    split at hf
    · rename_i hl
      cases hf
      refine ⟨ρ, M, env, r, he, ys, _, h1, fun ρ1 H1 e1 r1 vs dvs => ⟨by rw [← dvs.length]; exact hl, fun p hp => ?_⟩⟩
      obtain ⟨r2, e2, h2⟩ := r1.newL hp dvs
      exact hq _ _ (e1.trans e2) r2 _ (.loc h2)
    · cases hf
/-! ### a call of a built-in -/
def fC (h : List Dv → Mem → Option (Dv × Mem)) (f : FA) : FE := fun env M => bnd (f env M) h
variable {hc : List Dv → Mem → Option (Dv × Mem)} {id T : String} {x : Str} {p : Pos}
theorem c_imp {σ : St} {H : Hp} {Q : VK} (w : tE X.K ct (fC hc fr) σ H Q) : tCB (tC X.K ct hc) (tA X.K ct fr) σ H Q := by
  obtain ⟨ρ, M, env, r, he, d, M', hf, hq⟩ := w
  obtain ⟨ys, M1, h1, hf⟩ := bnd_some hf
  exact ⟨ρ, M, env, r, he, ys, M1, h1, fun ρ1 H1 e1 r1 vs dvs => ⟨ρ1, M1, ys, r1, dvs, d, M', hf, hq.later e1⟩⟩
theorem se_callB (h : SC X ct (.builtin id) hc) (hg : Gl X x) (hm : X.mg x = none) (hv : bootBuiltins x = some (.builtin id)) (ha : SA X ct (e :: es) fr) (hn : x ≠ "__name__" := by decide) (hdb : (x == ("__debug__" : Str)) = false := by decide)
    (he : starEach (e :: es) X.env = (false, eval e X.env) :: starEach es X.env := by rfl) (hpl : (backTo pos (starEach es X.env)).any (·.1) = false := by rfl) : SE X ct (.Call (.Name x p) (e :: es) [] pos) (fC hc fr) :=
  PE.imp (pe_callB h hg hm hv ha hn hdb he hpl) fun _ _ _ w => c_imp w
theorem se_callTy (h : SC X ct (.type T) hc) (hg : Gl X x) (hm : X.mg x = none) (hv : bootBuiltins x = some (.type T)) (ha : SA X ct (e :: es) fr) (hn : x ≠ "__name__" := by decide) (hdb : (x == ("__debug__" : Str)) = false := by decide)
    (he : starEach (e :: es) X.env = (false, eval e X.env) :: starEach es X.env := by rfl) (hpl : (backTo pos (starEach es X.env)).any (·.1) = false := by rfl) : SE X ct (.Call (.Name x p) (e :: es) [] pos) (fC hc fr) :=
  PE.imp (pe_callTy h hg hm hv ha hn hdb he hpl) fun _ _ _ w => c_imp w
end
end Zl

/-! text Z3 -/
namespace Zl
open PySem L2 PySem.Spec PyProof.Rows

abbrev Rz := Option (Dv × Mem)
section
variable {X : Cx}
/-- t + u, the sum locked -/
theorem op_catF : OpR X (binaryOp .Add) (fun x y H Q => ∃ a b xs ys, x = .ref a ∧ y = .ref b ∧ SqT X.K H a xs ∧ SqT X.K H b ys ∧ xs.length + ys.length ≤ sizeLine ∧
    (xs = [] → Q (.ref b) H) ∧ (xs ≠ [] → ys = [] → Q (.ref a) H) ∧ (xs ≠ [] → ys ≠ [] → ∀ p o, H p = none → o.dict = none → Q (.ref p) (upd H p (.frz o (.tup (xs ++ ys)))))) := by
  intro pins s σ H x y v u Q I rx ry h
  obtain ⟨a, b, xs, ys, rfl, rfl, ha, hb, hz, q0, q1, q2⟩ := h
  cases rx; cases ry
  obtain ⟨us, r1, p1, _⟩ := I.tuple ha
  obtain ⟨ws, r2, p2, _⟩ := I.tuple hb
  by_cases hx : xs = []
  · subst hx
    cases r1
    exact cat_tup0 p1 p2 ⟨V.ref b, H, I, rfl, q0 rfl⟩
  · have hu : us ≠ [] := fun e => hx (by subst e; cases r1; rfl)
    refine HT.cat_tup p1 p2 hu (fun e => ?_) (fun e => ?_) ?_
    · subst e; cases r2
      exact ⟨V.ref a, H, I, rfl, q1 hx rfl⟩
    · have hy : ys ≠ [] := fun e' => e (by subst e'; cases r2; rfl)
      exact ⟨V.ref s.heap.objs.size, _, layT (tk := s.toks) I (r1.append r2) (by rw [List.length_append]; exact hz), rfl, q2 hx hy _ _ (I.hok.fresh (Nat.le_refl _)) rfl⟩
    · have e1 := r1.length
      have e2 := r2.length
      omega
/-- t * k where nothing new is made: the tuple is empty, or k is 1 -/
theorem tmul_same (l : Addr) (items : Array Value) (n : Nat) (dd : Option Addr) (sl : Array (Option Value)) (x : Int) (u : Tok) (c0 : (decide (x < -(2 ^ 63)) || decide (x ≥ 2 ^ 63)) = false) (c1 : (items.isEmpty || x == 1) = true) :
    Meets (Builtin.«tuple.__mul__» ⟨[.ref l, .int x u], []⟩) (fun _ R s => s.heap.get? l = some { cls := .type "tuple", dict := dd, data := .seq items n, slots := sl } ∧ R (.ok (.ret (Value.ref l))) s) :=
  .of_wp fun prog w A R s h => by
    obtain ⟨hp, g, d, tk, os⟩ := s
    obtain ⟨hl, h⟩ := h
    have f1 := AutoSeq1.idx_int
    wp_walk using wpAny_loadPart' hl
    refine wpAny_ite_false (decide_eq_false (by rw [c0]; exact Bool.false_ne_true)) ?_
    wp_walk using wpAny_loadPart' hl
    exact ⟨_, rfl, h⟩
/-- t * k, k not above 0: a new empty tuple -/
theorem tmul_none (l : Addr) (items : Array Value) (n : Nat) (dd : Option Addr) (sl : Array (Option Value)) (x : Int) (u : Tok) (c0 : (decide (x < -(2 ^ 63)) || decide (x ≥ 2 ^ 63)) = false) (c1 : (items.isEmpty || x == 1) = false) (c2 : (decide (x ≤ 0) || items.isEmpty) = true) :
    Meets (Builtin.«tuple.__mul__» ⟨[.ref l, .int x u], []⟩) (fun _ R s => s.heap.get? l = some { cls := .type "tuple", dict := dd, data := .seq items n, slots := sl } ∧
      R (.ok (.ret (Value.ref s.heap.objs.size))) { s with heap := s.heap.push { cls := .type "tuple", data := .seq #[] } }) :=
  .of_wp fun prog w A R s h => by
    obtain ⟨hp, g, d, tk, os⟩ := s
    obtain ⟨hl, h⟩ := h
    have f1 := AutoSeq1.idx_int
    wp_walk using wpAny_loadPart' hl
    refine wpAny_ite_false (decide_eq_false (by rw [c0]; exact Bool.false_ne_true)) ?_
    wp_walk using wpAny_loadPart' hl
    exact ⟨_, rfl, h⟩
/-- t * k, whatever k: locked where it is new -/
theorem op_repF : OpR X (binaryOp .Mult) (fun x y H Q => ∃ l k xs, x = .ref l ∧ y = .int k ∧ SqT X.K H l xs ∧ -(2 ^ 63) ≤ k ∧ k < 2 ^ 63 ∧ xs.length * k.toNat ≤ sizeLine ∧
    (xs = [] ∨ k = 1 → Q (.ref l) H) ∧ (xs ≠ [] → k ≠ 1 → ∀ p o, H p = none → o.dict = none → Q (.ref p) (upd H p (.frz o (.tup (List.replicate k.toNat xs).flatten))))) := by
  intro pins s σ H x y v u Q I rx ry h
  obtain ⟨l, k, xs, rfl, rfl, hT, h1, h2, hz, q1, q2⟩ := h
  cases rx
  obtain ⟨t, rfl⟩ := ry
  obtain ⟨its, r, ⟨⟨cls, dd, data, sl⟩, ho, hc, n, hd⟩, hs⟩ := I.tuple hT
  simp only at hc hd
  subst hc hd
  have hle : its.length = xs.length := r.length.symm
  have c0 : (decide (k < -(2 ^ 63)) || decide (k ≥ 2 ^ 63)) = false := by
    rw [decide_eq_false (by omega), decide_eq_false (by omega)]; rfl
  have road : ∀ {S : PySem.Spec}, Meets (Builtin.«tuple.__mul__» ⟨[.ref l, .int k t], []⟩) S → S X.A (wants (EP X pins σ Q) X.xe) s → wpAny (model X.prog X.w) X.A (binaryOp .Mult (.ref l) (.int k t)) (EP X pins σ Q) X.xe s := fun {S} g hS =>
    wpAny_binaryOp_repeat_ref (T := "tuple") (U := "int") (by decide) ⟨_, ho, rfl⟩ (fun s' => typeIs_int s' k t) noFill_tuple_mul F.fills_int_mul F.slot_int_rmul repeat_tuple F.slot_int_index.lookup
      (call_meets F.slot_int_rmul (typeIs_int s k t) F.entry_int_rmul (F.args_int_rmul_2 _ _) (int_rmul_tuple k t l its.toArray n dd sl)
        ⟨ho, rfl, ⟨_, ho, rfl⟩, call_meets F.slot_tuple_mul ⟨_, ho, rfl⟩ F.entry_tuple_mul (F.args_tuple_mul_2 _ _) g hS⟩)
  by_cases hx : xs = []
  · subst hx
    cases r
    exact road (tmul_same l [].toArray n dd sl k t c0 rfl) ⟨ho, V.ref l, H, I, rfl, q1 (.inl rfl)⟩
  · have hn : its.toArray.isEmpty = false := by
      cases r with
      | nil => exact absurd rfl hx
      | cons _ _ => rfl
    by_cases hk : k = 1
    · subst hk
      exact road (tmul_same l _ n dd sl 1 t c0 (by rw [hn]; rfl)) ⟨ho, V.ref l, H, I, rfl, q1 (.inr rfl)⟩
    · have c1 : (its.toArray.isEmpty || k == 1) = false := by
        rw [hn, Bool.false_or]
        exact beq_eq_false_iff_ne.mpr hk
      by_cases h0 : k ≤ 0
      · refine road (tmul_none l _ n dd sl k t c0 c1 (by rw [decide_eq_true h0]; rfl)) ⟨ho, V.ref s.heap.objs.size, _, layT (us := []) (xs := []) (tk := s.toks) I .nil (Nat.zero_le _), rfl, ?_⟩
        have e := q2 hx hk s.heap.objs.size { cls := .type "tuple", data := .seq #[] } (I.hok.fresh (Nat.le_refl _)) rfl
        rw [show k.toNat = 0 by omega] at e
        exact e
      · have hm : ((its.toArray.size : Nat) : Int) * k ≤ 16777216 := by
          have e1 : ((its.toArray.size : Nat) : Int) * k = ((xs.length * k.toNat : Nat) : Int) := by
            rw [List.size_toArray, hle, Int.natCast_mul, Int.toNat_of_nonneg (by omega)]
          rw [e1]
          have : xs.length * k.toNat ≤ 16777216 := hz
          omega
        have flen : (List.replicate k.toNat its).flatten.length ≤ sizeLine := by
          rw [lm_len_rep_flat, hle, Nat.mul_comm]; exact hz
        have c4 : Builtin.Tuple.tupleTooMany (((its.toArray.size : Nat) : Int) * k) = false := by
          unfold Builtin.Tuple.tupleTooMany
          exact decide_eq_false (by rw [sizeLine_eq]; omega)
        refine road (tuple_mulW l its.toArray n dd sl k t c0 c1 (by rw [hn, Bool.or_false]; exact decide_eq_false h0) (by omega) c4 (by rw [size_rep, List.size_toArray]; exact flen)) ⟨ho, ?_⟩
        rw [size_rep]
        refine ⟨V.ref s.heap.objs.size, _, layT (tk := s.toks) I (r.rep k.toNat) ?_, rfl, q2 hx hk _ _ (I.hok.fresh (Nat.le_refl _)) rfl⟩
        rw [lm_len_rep_flat, Nat.mul_comm]; exact hz
end
section
variable {X : Cx} {ct : Ct}
/-! ### arithmetic -/
def addD : Dv → Dv → Mem → Rz
  | .int i, .int j, M => some (.int (i + j), M)
  | .str x, .str y, M => if x.length + y.length ≤ sizeLine then some (.str (x ++ y), M) else none
  | .tup xs, .tup ys, M => if xs.length + ys.length ≤ sizeLine then some (.tup (xs ++ ys), M) else none
  | .loc m, .loc n, M => match M[m]?, M[n]? with
    | some (.lst xs), some (.lst ys) => if xs.length + ys.length ≤ sizeLine then some (.loc M.length, M ++ [.lst (xs ++ ys)]) else none
    | _, _ => none
  | _, _, _ => none
theorem so_add : SO X ct (binaryOp .Add) addD := by
  intro pins s σ H x y v u Q I rx ry h
  obtain ⟨ρ, M, d, e, r, dx, dy, z, M', hf, hq⟩ := h
  unfold addD at hf
  split at hf
  · cases hf; cases dx; cases dy
    exact op_add pins s σ H _ _ v u Q I rx ry ⟨_, _, rfl, rfl, hq ρ H .refl r _ (.int _)⟩
  · split at hf
    · rename_i hl
      cases hf; cases dx; cases dy
      exact op_add_str pins s σ H _ _ v u Q I rx ry ⟨_, _, rfl, rfl, hl, hq ρ H .refl r _ (.str _)⟩
    · cases hf
  · split at hf
    · rename_i hl
      cases hf
      cases dx with
      | tup h1 d1 =>
        cases dy with
        | tup h2 d2 =>
          refine op_catF pins s σ H _ _ v u Q I rx ry ⟨_, _, _, _, rfl, rfl, h1.sq, h2.sq, by rw [← d1.length, ← d2.length]; exact hl, fun e1 => ?_, fun n1 e2 => ?_, fun n1 n2 p o hp ho => ?_⟩
          · subst e1
            cases d1
            exact hq ρ H .refl r _ (.tup h2 d2)
          · subst e2
            cases d2
            exact hq ρ H .refl r _ (.tup h1 (by rw [List.append_nil]; exact d1))
          · exact hq ρ _ (Ext.fresh hp) (r.tup hp _) _ (.tup (TupD.new ho) ((d1.append d2).mono (Ext.fresh hp)))
    · cases hf
  · split at hf
    · rename_i m n _ _ hm hn
      split at hf
      · rename_i hl
        cases hf
        obtain ⟨a, vs, rfl, a1, a2, a3⟩ := r.lst hm dx
        obtain ⟨b, ws, rfl, b1, b2, b3⟩ := r.lst hn dy
        refine op_cat pins s σ H _ _ v u Q I rx ry ⟨_, _, _, _, rfl, rfl, a2, b2, by rw [← a3.length, ← b3.length]; exact hl, fun p hp => ?_⟩
        obtain ⟨r2, e2, h2⟩ := r.newL hp (a3.append b3)
        exact hq _ _ e2 r2 _ (.loc h2)
      · cases hf
    · cases hf
  · cases hf
def subD : Dv → Dv → Mem → Rz
  | .int i, .int j, M => some (.int (i - j), M)
  | _, _, _ => none
theorem so_sub : SO X ct (binaryOp .Sub) subD := by
  intro pins s σ H x y v u Q I rx ry h
  obtain ⟨ρ, M, d, e, r, dx, dy, z, M', hf, hq⟩ := h
  unfold subD at hf
  split at hf
  · cases hf; cases dx; cases dy
    exact op_sub pins s σ H _ _ v u Q I rx ry ⟨_, _, rfl, rfl, hq ρ H .refl r _ (.int _)⟩
  · cases hf
theorem rep_nil : ∀ n : Nat, (List.replicate n ([] : List Dv)).flatten = []
  | 0 => rfl
  | n + 1 => by rw [List.replicate_succ, List.flatten_cons, rep_nil n]; rfl
theorem rep_one (xs : List Dv) : (List.replicate (1 : Int).toNat xs).flatten = xs := by simp
def mulD : Dv → Dv → Mem → Rz
  | .int i, .int j, M => if (-(2 ^ 64) < i ∧ i < 2 ^ 64) ∨ (-(2 ^ 64) < j ∧ j < 2 ^ 64) then some (.int (i * j), M) else none
  | .loc n, .int k, M => match M[n]? with
    | some (.lst xs) => if -(2 ^ 63) ≤ k ∧ k < 2 ^ 63 ∧ xs.length * k.toNat ≤ sizeLine then some (.loc M.length, M ++ [.lst (List.replicate k.toNat xs).flatten]) else none
    | _ => none
  | .tup xs, .int k, M => if -(2 ^ 63) ≤ k ∧ k < 2 ^ 63 ∧ xs.length * k.toNat ≤ sizeLine then some (.tup (List.replicate k.toNat xs).flatten, M) else none
  | _, _, _ => none
theorem so_mul : SO X ct (binaryOp .Mult) mulD := by
  intro pins s σ H x y v u Q I rx ry h
  obtain ⟨ρ, M, d, e, r, dx, dy, z, M', hf, hq⟩ := h
  unfold mulD at hf
  split at hf
  · split at hf
    · rename_i hl
      cases hf; cases dx; cases dy
      exact op_mul pins s σ H _ _ v u Q I rx ry ⟨_, _, rfl, rfl, hl, hq ρ H .refl r _ (.int _)⟩
    · cases hf
  · split at hf
    · rename_i n k _ _ hm
      split at hf
      · rename_i hl
        cases hf
        obtain ⟨a, vs, rfl, a1, a2, a3⟩ := r.lst hm dx
        cases dy
        refine op_rep pins s σ H _ _ v u Q I rx ry ⟨_, _, _, rfl, rfl, a2, hl.1, hl.2.1, by rw [← a3.length]; exact hl.2.2, fun p hp => ?_⟩
        obtain ⟨r2, e2, h2⟩ := r.newL hp (a3.rep _)
        exact hq _ _ e2 r2 _ (.loc h2)
      · cases hf
    · cases hf
  · split at hf
    · rename_i xs k _ hl
      cases hf
      cases dy
      cases dx with
      | tup h1 d1 =>
        refine op_repF pins s σ H _ _ v u Q I rx ry ⟨_, _, _, rfl, rfl, h1.sq, hl.1, hl.2.1, by rw [← d1.length]; exact hl.2.2, fun hs => ?_, fun _ _ p o hp ho => ?_⟩
        · refine hq ρ H .refl r _ (.tup h1 ?_)
          rcases hs with e | e
          · subst e; cases d1
            rw [rep_nil]; exact .nil
          · subst e
            rw [rep_one]; exact d1
        · exact hq ρ _ (Ext.fresh hp) (r.tup hp _) _ (.tup (TupD.new ho) ((d1.rep _).mono (Ext.fresh hp)))
    · cases hf
  · cases hf
def fdivD : Dv → Dv → Mem → Rz
  | .int i, .int j, M => if 0 < j ∧ j < 1073741824 then some (.int (i / j), M) else none
  | _, _, _ => none
theorem so_fdiv : SO X ct (binaryOp .FloorDiv) fdivD := by
  intro pins s σ H x y v u Q I rx ry h
  obtain ⟨ρ, M, d, e, r, dx, dy, z, M', hf, hq⟩ := h
  unfold fdivD at hf
  split at hf
  · split at hf
    · rename_i hl
      cases hf; cases dx; cases dy
      exact op_fdiv pins s σ H _ _ v u Q I rx ry ⟨_, _, rfl, rfl, hl, hq ρ H .refl r _ (.int _)⟩
    · cases hf
  · cases hf
def modD : Dv → Dv → Mem → Rz
  | .int i, .int j, M => if 0 < j then some (.int (i % j), M) else none
  | _, _, _ => none
theorem so_mod : SO X ct (binaryOp .Mod) modD := by
  intro pins s σ H x y v u Q I rx ry h
  obtain ⟨ρ, M, d, e, r, dx, dy, z, M', hf, hq⟩ := h
  unfold modD at hf
  split at hf
  · split at hf
    · rename_i hl
      cases hf; cases dx; cases dy
      exact op_mod pins s σ H _ _ v u Q I rx ry ⟨_, _, rfl, rfl, hl, hq ρ H .refl r _ (.int _)⟩
    · cases hf
  · cases hf
def powD : Dv → Dv → Mem → Rz
  | .int i, .int j, M => if 0 ≤ j ∧ j ≤ 1000 ∧ i.natAbs < 2 ^ 64 then some (.int (i ^ j.toNat), M) else none
  | _, _, _ => none
theorem so_pow : SO X ct (binaryOp .Pow) powD := by
  intro pins s σ H x y v u Q I rx ry h
  obtain ⟨ρ, M, d, e, r, dx, dy, z, M', hf, hq⟩ := h
  unfold powD at hf
  split at hf
  · split at hf
    · rename_i hl
      cases hf; cases dx; cases dy
      exact op_pow pins s σ H _ _ v u Q I rx ry ⟨_, _, rfl, rfl, ⟨hl.1, by omega, hl.2.2⟩, hq ρ H .refl r _ (.int _)⟩
    · cases hf
  · cases hf
def negD : Dv → Mem → Rz
  | .int i, M => some (.int (-i), M)
  | _, _ => none
theorem su_neg : SU X ct (unaryOp .USub) negD := by
  intro pins s σ H x v Q I rx h
  obtain ⟨ρ, M, d, r, dx, z, M', hf, hq⟩ := h
  unfold negD at hf
  split at hf
  · cases hf; cases dx
    exact un_neg pins s σ H _ v Q I rx ⟨_, rfl, hq ρ H .refl r _ (.int _)⟩
  · cases hf

/-! ### the order of ints -/
def cmpI (p : Int → Int → Bool) : Dv → Dv → Mem → Rz
  | .int i, .int j, M => some (.bl (p i j), M)
  | _, _, _ => none
theorem so_cmpI {op : CmpOp} {p : Int → Int → Bool} (h0 : OpR X (compareOp op) (rI0 fun i j => .bl (p i j))) : SO X ct (compareOp op) (cmpI p) := by
  intro pins s σ H x y v u Q I rx ry h
  obtain ⟨ρ, M, d, e, r, dx, dy, z, M', hf, hq⟩ := h
  unfold cmpI at hf
  split at hf
  · cases hf; cases dx; cases dy
    exact h0 pins s σ H _ _ v u Q I rx ry ⟨_, _, rfl, rfl, hq ρ H .refl r _ (.bl _)⟩
  · cases hf
abbrev ltD := cmpI fun i j => decide (i < j)
abbrev leD := cmpI fun i j => decide (i ≤ j)
abbrev gtD := cmpI fun i j => decide (j < i)
abbrev geD := cmpI fun i j => decide (j ≤ i)
theorem so_lt : SO X ct (compareOp .Lt) ltD := so_cmpI op_lt
theorem so_le : SO X ct (compareOp .LtE) leD := so_cmpI op_le
theorem so_gt : SO X ct (compareOp .Gt) gtD := so_cmpI op_gt
theorem so_ge : SO X ct (compareOp .GtE) geD := so_cmpI op_ge

/-! ### data as a whole: ==, repr -/
def rdL (f : Dv → Option PyData) : List Dv → Option (List PyData)
  | [] => some []
  | x :: xs => match f x with
    | none => none
    | some p => match rdL f xs with
      | none => none
      | some ps => some (p :: ps)
def rd (M : Mem) : Nat → Dv → Option PyData
  | _, .non => some .none
  | _, .bl b => some (.bool b)
  | _, .int i => some (.int i)
  | _, .str x => some (.str x)
  | _, .ty _ => none
  | _, .pr _ => none
  | 0, _ => none
  | n + 1, .tup xs => match rdL (rd M n) xs with
    | some ps => some (.tuple ps)
    | none => none
  | n + 1, .rol xs => match rdL (rd M n) xs with
    | some ps => some (.list ps)
    | none => none
  | n + 1, .loc k => match M[k]? with
    | some (.lst xs) => match rdL (rd M n) xs with
      | some ps => some (.list ps)
      | none => none
    | _ => none
section
variable {K : Frg} {ρ : List Addr} {M : Mem} {H : Hp}
theorem rdL_dp {f : Dv → Option PyData} (hf : ∀ d v p, DV K ρ H d v → f d = some p → Dp K H v p) : ∀ {xs : List Dv} {vs : List V} {ps : List PyData}, DVs K ρ H xs vs → rdL f xs = some ps → DpAll K H vs ps
  | _, _, _, .nil, e => by cases e; exact .nil
  | _, _, _, .cons h t, e => by
    unfold rdL at e
    split at e
    · cases e
    · rename_i p hp
      split at e
      · cases e
      · rename_i qs hq
        cases e
        exact .cons (hf _ _ _ h hp) (rdL_dp hf t hq)
theorem rd_dp (r : Rl K ct ρ M H) : ∀ (n : Nat) {d : Dv} {v : V} {p : PyData}, DV K ρ H d v → rd M n d = some p → Dp K H v p
  | _, .non, _, _, h, e => by cases h; simp [rd] at e; subst e; exact .non
  | _, .bl b, _, _, h, e => by cases h; simp [rd] at e; subst e; exact .bl b
  | _, .int i, _, _, h, e => by cases h; simp [rd] at e; subst e; exact .int i
  | _, .str x, _, _, h, e => by cases h; simp [rd] at e; subst e; exact .str x
  | _, .ty _, _, _, h, e => by simp [rd] at e
  | _, .pr _, _, _, h, e => by simp [rd] at e
  | 0, .tup _, _, _, _, e => by simp [rd] at e
  | 0, .rol _, _, _, _, e => by simp [rd] at e
  | 0, .loc _, _, _, _, e => by simp [rd] at e
  | n + 1, .tup xs, _, _, h, e => by
    unfold rd at e
    split at e
    · rename_i ps hp
      cases e
      cases h with
      | tup hs hd => exact .tup hs.sq (rdL_dp (fun d v p h1 h2 => rd_dp r n h1 h2) hd hp)
    · cases e
  | n + 1, .rol xs, _, _, h, e => by
    unfold rd at e
    split at e
    · rename_i ps hp
      cases e
      cases h with
      | rol hs hd => exact .lst hs.sq (rdL_dp (fun d v p h1 h2 => rd_dp r n h1 h2) hd hp)
    · cases e
  | n + 1, .loc k, _, _, h, e => by
    unfold rd at e
    split at e
    · rename_i xs hm
      split at e
      · rename_i ps hp
        cases e
        obtain ⟨a, vs, rfl, a1, a2, a3⟩ := r.lst hm h
        exact .lst (SqL.of a2) (rdL_dp (fun d v p h1 h2 => rd_dp r n h1 h2) a3 hp)
      · cases e
    · cases e
end
def deep : Nat := 30
def eqD (neg : Bool) : Dv → Dv → Mem → Rz
  | .int i, .int j, M => some (.bl (xor neg (i == j)), M)
  | .str x, .str y, M => some (.bl (xor neg (x == y)), M)
  | x, y, M => match rd M deep x, rd M deep y with
    | some p, some q => if SeqAt.shaped p = true ∧ SeqAt.shaped q = true then some (.bl (xor neg (PyData.eqv p q)), M) else none
    | _, _ => none
theorem so_eq (hu : X.A.units + 64 < cLine) : SO X ct (compareOp .Eq) (eqD false) := by
  intro pins s σ H x y v u Q I rx ry h
  obtain ⟨ρ, M, d, e, r, dx, dy, z, M', hf, hq⟩ := h
  unfold eqD at hf
  split at hf
  · cases hf; cases dx; cases dy
    refine op_eq pins s σ H _ _ v u Q I rx ry ⟨rfl, ?_⟩
    rw [dec_int]
    exact hq ρ H .refl r _ (by rw [Bool.false_xor]; exact .bl _)
  · cases hf; cases dx; cases dy
    refine op_eq pins s σ H _ _ v u Q I rx ry ⟨rfl, ?_⟩
    rw [dec_str]
    exact hq ρ H .refl r _ (by rw [Bool.false_xor]; exact .bl _)
  · split at hf
    · rename_i p q hp hq'
      split at hf
      · rename_i hs
        cases hf
        exact op_eqD hu pins s σ H _ _ v u Q I rx ry ⟨p, q, rd_dp r _ dx hp, rd_dp r _ dy hq', hs.1, hs.2, hq ρ H .refl r _ (by rw [Bool.false_xor]; exact .bl _)⟩
      · cases hf
    · cases hf
theorem so_ne (hu : X.A.units + 64 < cLine) : SO X ct (compareOp .NotEq) (eqD true) := by
  intro pins s σ H x y v u Q I rx ry h
  obtain ⟨ρ, M, d, e, r, dx, dy, z, M', hf, hq⟩ := h
  unfold eqD at hf
  split at hf
  · cases hf; cases dx; cases dy
    refine op_ne pins s σ H _ _ v u Q I rx ry ⟨rfl, ?_⟩
    rw [dec_int]
    exact hq ρ H .refl r _ (by rw [Bool.true_xor]; exact .bl _)
  · cases hf; cases dx; cases dy
    refine op_ne pins s σ H _ _ v u Q I rx ry ⟨rfl, ?_⟩
    rw [dec_str]
    exact hq ρ H .refl r _ (by rw [Bool.true_xor]; exact .bl _)
  · split at hf
    · rename_i p q hp hq'
      split at hf
      · rename_i hs
        cases hf
        exact op_neD hu pins s σ H _ _ v u Q I rx ry ⟨p, q, rd_dp r _ dx hp, rd_dp r _ dy hq', hs.1, hs.2, hq ρ H .refl r _ (by rw [Bool.true_xor]; exact .bl _)⟩
      · cases hf
    · cases hf
/-! ### is None -/
def isNon : Dv → Bool
  | .non => true
  | _ => false
theorem isNon_of {K : Frg} {ρ : List Addr} {H : Hp} {d : Dv} {v : V} (h : DV K ρ H d v) : decide (v = .non) = isNon d := by cases h <;> rfl
def isD (neg : Bool) : Dv → Dv → Mem → Rz
  | d, .non, M => some (.bl (xor neg (isNon d)), M)
  | _, _, _ => none
theorem so_is : SO X ct (compareOp .Is) (isD false) := by
  intro pins s σ H x y v u Q I rx ry h
  obtain ⟨ρ, M, d, e, r, dx, dy, z, M', hf, hq⟩ := h
  unfold isD at hf
  split at hf
  · cases hf; cases dy
    exact op_isN pins s σ H _ _ v u Q I rx ry ⟨rfl, hq ρ H .refl r _ (by rw [isNon_of dx, Bool.false_xor]; exact .bl _)⟩
  · cases hf
theorem so_isnot : SO X ct (compareOp .IsNot) (isD true) := by
  intro pins s σ H x y v u Q I rx ry h
  obtain ⟨ρ, M, d, e, r, dx, dy, z, M', hf, hq⟩ := h
  unfold isD at hf
  split at hf
  · cases hf; cases dy
    exact op_notN pins s σ H _ _ v u Q I rx ry ⟨rfl, hq ρ H .refl r _ (by rw [isNon_of dx, Bool.true_xor]; exact .bl _)⟩
  · cases hf
end
end Zl

/-! text Z4 -/
namespace Zl
open PySem L2 PySem.Spec PyProof.Rows

/-! ### flat values -/
def flatD : Dv → Bool
  | .non => true
  | .bl _ => true
  | .int _ => true
  | .str _ => true
  | _ => false
def eqF : Dv → Dv → Bool
  | .non, .non => true
  | .bl a, .bl b => a == b
  | .bl a, .int b => (if a then 1 else 0) == b
  | .int a, .bl b => a == (if b then 1 else 0)
  | .int a, .int b => a == b
  | .str a, .str b => a == b
  | _, _ => false
def idxB (p : Dv → Bool) : List Dv → Option Nat
  | [] => none
  | y :: ys => if p y then some 0 else match idxB p ys with
    | some n => some (n + 1)
    | none => none
theorem idxB_some {p : Dv → Bool} : ∀ {ys : List Dv} {j : Nat}, idxB p ys = some j → (∃ z, ys[j]? = some z ∧ p z = true) ∧ ∀ (m : Nat) z, m < j → ys[m]? = some z → p z = false
  | [], j, h => by cases h
  | y :: ys, j, h => by
    unfold idxB at h
    split at h
    · rename_i hp
      cases h
      exact ⟨⟨y, rfl, hp⟩, fun m z hm => absurd hm (Nat.not_lt_zero m)⟩
    · rename_i hp
      split at h
      · rename_i n hn
        cases h
        obtain ⟨⟨z, h1, h2⟩, h3⟩ := idxB_some hn
        refine ⟨⟨z, by simpa using h1, h2⟩, fun m w hm hw => ?_⟩
        cases m with
        | zero => simp at hw; subst hw; simpa using hp
        | succ m => exact h3 m w (by omega) (by simpa using hw)
      · cases h
section
variable {K : Frg} {ρ : List Addr} {H : Hp}
theorem flat_of {d : Dv} {v : V} (h : DV K ρ H d v) : flatV v = flatD d := by cases h <;> rfl
theorem flats_of : ∀ {ds : List Dv} {vs : List V}, DVs K ρ H ds vs → vs.all flatV = ds.all flatD
  | _, _, .nil => rfl
  | _, _, .cons h t => by rw [List.all_cons, List.all_cons, flat_of h, flats_of t]
theorem eq_of {d e : Dv} {v u : V} (h : DV K ρ H d v) (h' : DV K ρ H e u) (f : flatD d = true) (f' : flatD e = true) : eqV v u = eqF d e := by
  cases h <;> cases h' <;> first | rfl | (exact absurd f (by decide)) | (exact absurd f' (by decide))
theorem any_of {x : Dv} {u : V} (hx : DV K ρ H x u) (fx : flatD x = true) : ∀ {ds : List Dv} {vs : List V}, DVs K ρ H ds vs → ds.all flatD = true → (vs.any fun y => eqV y u) = ds.any fun y => eqF y x
  | _, _, .nil, _ => rfl
  | _, _, .cons h t, f => by
    rw [List.all_cons, Bool.and_eq_true] at f
    rw [List.any_cons, List.any_cons, eq_of h hx f.1 fx, any_of hx fx t f.2]
theorem DVs.at_ {ds : List Dv} {vs : List V} {i : Int} {d : Dv} (h : DVs K ρ H ds vs) (e : atI ds i = some d) : ∃ v, atI vs i = some v ∧ DV K ρ H d v := by
  unfold atI at e ⊢
  rw [← h.length]
  cases q : ixN ds.length i with
  | none => rw [q] at e; cases e
  | some j =>
    rw [q] at e
    exact h.get e
theorem DVs.back : ∀ {ds : List Dv} {vs : List V} {i : Nat} {v : V}, DVs K ρ H ds vs → vs[i]? = some v → ∃ d, ds[i]? = some d ∧ DV K ρ H d v
  | _, _, _, _, .nil, e => by simp at e
  | _, _, 0, _, .cons h _, e => by simp at e; subst e; exact ⟨_, rfl, h⟩
  | _, _, i + 1, v, .cons _ r, e => by
    obtain ⟨u, h1, h2⟩ := DVs.back (i := i) (v := v) r (by simpa using e)
    exact ⟨u, by simpa using h1, h2⟩
end

section
variable {X : Cx} {ct : Ct} {e a b : Expr} {es : List Expr} {pos p : Pos} {fa fb : FE} {fr : FA}
/-! ### in -/
def inD (neg : Bool) : Dv → Dv → Mem → Rz
  | x, .tup ys, M => if flatD x && ys.all flatD then some (.bl (xor neg (ys.any fun y => eqF y x)), M) else none
  | x, .loc n, M => match M[n]? with
    | some (.lst ys) => if flatD x && ys.all flatD then some (.bl (xor neg (ys.any fun y => eqF y x)), M) else
      match rd M deep x, rdL (rd M deep) ys with
      | some p, some ps => if SeqAt.shaped p = true ∧ SeqAt.shaped (.list ps) = true then some (.bl (xor neg (ps.any fun z => PyData.eqv z p)), M) else none
      | _, _ => none
    | _ => none
  | .str x, .str y, M => match x.cps.toList with
    | [c] => some (.bl (xor neg (decide (c ∈ y.cps.toList))), M)
    | _ => none
  | _, _, _ => none
theorem one_sign {x : Str} {c : Nat} (h : x.cps.toList = [c]) : x = ⟨#[c]⟩ := by
  obtain ⟨a⟩ := x
  have : a = #[c] := by
    apply Array.toList_inj.mp
    simpa using h
  rw [this]
theorem so_in (hu : X.A.units + 65 < cLine) : SO X ct (compareOp .In) (inD false) := by
  intro pins s σ H x y v u Q I rx ry h
  obtain ⟨ρ, M, d, e, r, dx, dy, z, M', hf, hq⟩ := h
  unfold inD at hf
  split at hf
  · split at hf
    · rename_i hl
      rw [Bool.and_eq_true] at hl
      cases hf
      cases dy with
      | tup hs hd =>
        refine op_in_seq pins s σ H _ _ v u Q I rx ry ⟨_, _, rfl, .inr hs.sq, by rw [flat_of dx]; exact hl.1, by rw [flats_of hd]; exact hl.2, ?_⟩
        rw [if_neg (by decide)]
        refine hq ρ H .refl r _ ?_
        rw [Bool.false_xor]
        unfold inV
        rw [any_of dx hl.1 hd hl.2]
        exact .bl _
    · cases hf
  · split at hf
    · rename_i n M0 _ _ ys hm
      obtain ⟨a, vs, rfl, h1, h2, h3⟩ := r.lst hm dy
      split at hf
      · rename_i hl
        rw [Bool.and_eq_true] at hl
        cases hf
        refine op_in_seq pins s σ H _ _ v u Q I rx ry ⟨_, _, rfl, .inl (SqL.of h2), by rw [flat_of dx]; exact hl.1, by rw [flats_of h3]; exact hl.2, ?_⟩
        rw [if_neg (by decide)]
        refine hq ρ H .refl r _ ?_
        rw [Bool.false_xor]
        unfold inV
        rw [any_of dx hl.1 h3 hl.2]
        exact .bl _
      · split at hf
        · rename_i p ps hp hps
          split at hf
          · rename_i hs
            cases hf
            refine op_inD hu pins s σ H _ _ v u Q I rx ry ⟨p, ps, rd_dp r _ dx hp, .lst (SqL.of h2) (rdL_dp (fun d v p h1 h2 => rd_dp r _ h1 h2) h3 hps), hs.1, hs.2, ?_⟩
            exact hq ρ H .refl r _ (by rw [Bool.false_xor]; exact .bl _)
          · cases hf
        · cases hf
    · cases hf
  · split at hf
    · rename_i c hc
      cases hf; cases dx; cases dy
      exact op_in_sign pins s σ H _ _ v u Q I rx ry ⟨c, _, by rw [one_sign hc], rfl, hq ρ H .refl r _ (by rw [Bool.false_xor]; exact .bl _)⟩
    · cases hf
  · cases hf
theorem so_notin (hu : X.A.units + 65 < cLine) : SO X ct (compareOp .NotIn) (inD true) := by
  intro pins s σ H x y v u Q I rx ry h
  obtain ⟨ρ, M, d, e, r, dx, dy, z, M', hf, hq⟩ := h
  unfold inD at hf
  split at hf
  · split at hf
    · rename_i hl
      rw [Bool.and_eq_true] at hl
      cases hf
      cases dy with
      | tup hs hd =>
        refine op_notIn_seq pins s σ H _ _ v u Q I rx ry ⟨_, _, rfl, .inr hs.sq, by rw [flat_of dx]; exact hl.1, by rw [flats_of hd]; exact hl.2, ?_⟩
        rw [if_pos rfl]
        refine hq ρ H .refl r _ ?_
        rw [Bool.true_xor]
        unfold inV
        rw [any_of dx hl.1 hd hl.2]
        exact .bl _
    · cases hf
  · split at hf
    · rename_i n M0 _ _ ys hm
      obtain ⟨a, vs, rfl, h1, h2, h3⟩ := r.lst hm dy
      split at hf
      · rename_i hl
        rw [Bool.and_eq_true] at hl
        cases hf
        refine op_notIn_seq pins s σ H _ _ v u Q I rx ry ⟨_, _, rfl, .inl (SqL.of h2), by rw [flat_of dx]; exact hl.1, by rw [flats_of h3]; exact hl.2, ?_⟩
        rw [if_pos rfl]
        refine hq ρ H .refl r _ ?_
        rw [Bool.true_xor]
        unfold inV
        rw [any_of dx hl.1 h3 hl.2]
        exact .bl _
      · split at hf
        · rename_i p ps hp hps
          split at hf
          · rename_i hs
            cases hf
            refine op_notInD hu pins s σ H _ _ v u Q I rx ry ⟨p, ps, rd_dp r _ dx hp, .lst (SqL.of h2) (rdL_dp (fun d v p h1 h2 => rd_dp r _ h1 h2) h3 hps), hs.1, hs.2, ?_⟩
            exact hq ρ H .refl r _ (by rw [Bool.true_xor]; exact .bl _)
          · cases hf
        · cases hf
    · cases hf
  · split at hf
    · rename_i c hc
      cases hf; cases dx; cases dy
      exact op_notIn_sign pins s σ H _ _ v u Q I rx ry ⟨c, _, by rw [one_sign hc], rfl, hq ρ H .refl r _ (by rw [Bool.true_xor]; exact .bl _)⟩
    · cases hf
  · cases hf
/-! ### subscripts -/
def ixD : Dv → Dv → Mem → Rz
  | .tup xs, .int i, M => match atI xs i with
    | some d => some (d, M)
    | none => none
  | .pr xs, .int i, M => match atI xs i with
    | some d => some (d, M)
    | none => none
  | .rol xs, .int i, M => match atI xs i with
    | some d => some (d, M)
    | none => none
  | .loc n, .int i, M => match M[n]? with
    | some (.lst xs) => match atI xs i with
      | some d => some (d, M)
      | none => none
    | _ => none
  | .str x, .int i, M => if x.length ≤ sizeLine then match atI x.cps.toList i with
      | some c => some (.str ⟨#[c]⟩, M)
      | none => none
    else none
  | _, _, _ => none
theorem sx_seq : IxR X (tO X.K ct ixD) := by
  intro value slice pins s σ H x y v u Q I rx ry h hsub
  obtain ⟨ρ, M, d, e, r, dx, dy, z, M', hf, hq⟩ := h
  unfold ixD at hf
  split at hf
  · split at hf
    · rename_i d0 hd0
      cases hf; cases dy
      cases dx with
      | tup hs hd =>
        obtain ⟨w, h1, h2⟩ := hd.at_ hd0
        exact ix_seq value slice pins s σ H _ _ v u Q I rx ry (.inr (.inl ⟨_, _, _, w, rfl, rfl, hs.sq, h1, hq ρ H .refl r _ h2⟩)) hsub
    · cases hf
  · split at hf
    · rename_i d0 hd0
      cases hf; cases dy
      cases dx with
      | pr hs hd =>
        obtain ⟨w, h1, h2⟩ := hd.at_ hd0
        exact ix_seq value slice pins s σ H _ _ v u Q I rx ry (.inr (.inl ⟨_, _, _, w, rfl, rfl, hs, h1, hq ρ H .refl r _ h2⟩)) hsub
    · cases hf
  · split at hf
    · rename_i d0 hd0
      cases hf; cases dy
      cases dx with
      | rol hs hd =>
        obtain ⟨w, h1, h2⟩ := hd.at_ hd0
        exact ix_seq value slice pins s σ H _ _ v u Q I rx ry (.inl ⟨_, _, _, w, rfl, rfl, hs.sq, h1, hq ρ H .refl r _ h2⟩) hsub
    · cases hf
  · split at hf
    · rename_i hm
      split at hf
      · rename_i d0 hd0
        cases hf; cases dy
        obtain ⟨a, vs, rfl, a1, a2, a3⟩ := r.lst hm dx
        obtain ⟨w, h1, h2⟩ := a3.at_ hd0
        exact ix_seq value slice pins s σ H _ _ v u Q I rx ry (.inl ⟨_, _, _, w, rfl, rfl, SqL.of a2, h1, hq ρ H .refl r _ h2⟩) hsub
      · cases hf
    · cases hf
  · split at hf
    · rename_i hl
      split at hf
      · rename_i c hc
        cases hf; cases dx; cases dy
        exact ix_seq value slice pins s σ H _ _ v u Q I rx ry (.inr (.inr ⟨_, _, c, rfl, rfl, hl, hc, hq ρ H .refl r _ (.str _)⟩)) hsub
      · cases hf
    · cases hf
  · cases hf
theorem se_ix (ha : SE X ct a fa) (hb : SE X ct b fb) (hs : PlainIx b := by intro _ _; rfl) : SE X ct (.Subscript a b pos) (fO ixD fa fb) :=
  PE.imp (pe_ix sx_seq ha hb hs) fun _ _ _ w => op_imp w
/-! ### slices -/
abbrev FO := En → Mem → Option (Option Int × Mem)
def tPo (K : Frg) (ct : Ct) (f : FO) : TO := fun σ H Q => ∃ ρ M env, Rl K ct ρ M H ∧ EnOk K ρ H env σ ∧ ∃ o M', f env M = some (o, M') ∧ Aft K ct ρ H M' fun _ H' => Q o H'
abbrev SPo (X : Cx) (ct : Ct) (e : Option Expr) (f : FO) : Prop := PO X e (tPo X.K ct f)
theorem PO.imp {e : Option Expr} {t t' : TO} (h : PO X e t) (k : ∀ σ H Q, t' σ H Q → t σ H Q) : PO X e t' := ⟨fun pins s σ H Q I w => h.run pins s σ H Q I (k σ H Q w)⟩
def fNoP : FO := fun _ M => some (none, M)
def fP (f : FE) : FO := fun env M => bnd (f env M) fun d M1 => match d with
  | .int i => some (some i, M1)
  | _ => none
theorem so_none : SPo X ct none fNoP := PO.imp po_none fun σ H Q ⟨ρ, M, env, r, he, o, M', hf, hq⟩ => by
  cases hf
  exact hq ρ H .refl r
theorem so_some (h : SE X ct e fa) : SPo X ct (some e) (fP fa) := PO.imp (po_some h) fun σ H Q ⟨ρ, M, env, r, he, o, M', hf, hq⟩ => by
  obtain ⟨x, M1, h1, hf⟩ := bnd_some hf
  split at hf
  · cases hf
    exact ⟨ρ, M, env, r, he, _, _, h1, fun ρ1 H1 e1 r1 v dv => by cases dv; exact ⟨_, rfl, hq ρ1 H1 e1 r1⟩⟩
  · cases hf
/-- the part from lo to hi -/
def cutD (xs : List Dv) (lo hi : Option Int) : List Dv := (xs.drop (HT.sIx xs.length 0 lo)).take (HT.sIx xs.length xs.length hi - HT.sIx xs.length 0 lo)
theorem DVs.cut {K : Frg} {ρ : List Addr} {H : Hp} {ds : List Dv} {vs : List V} (h : DVs K ρ H ds vs) (lo hi : Option Int) : DVs K ρ H (cutD ds lo hi) (cutV vs lo hi) := by
  unfold cutD cutV
  rw [h.length]
  exact (h.drop _).take _
def slD (x : Dv) (lo hi : Option Int) (M : Mem) : Rz :=
  match x with
  | .tup xs => some (.tup (cutD xs lo hi), M)
  | .rol xs => some (.loc M.length, M ++ [.lst (cutD xs lo hi)])
  | .loc n => match M[n]? with
    | some (.lst xs) => some (.loc M.length, M ++ [.lst (cutD xs lo hi)])
    | _ => none
  | .str z => if z.length ≤ sizeLine then some (.str (cutS z lo hi), M) else none
  | _ => none
def tSlz (K : Frg) (ct : Ct) : V → Option Int → Option Int → Hp → VK → Prop := fun x lo hi H Q => ∃ ρ M d, Rl K ct ρ M H ∧ DV K ρ H d x ∧ ∃ z M', slD d lo hi M = some (z, M') ∧ Aft K ct ρ H M' fun ρ' H' => ∀ v, DV K ρ' H' z v → Q v H'
/-- t[lo:hi] of a tuple, locked where it is new -/
theorem sl_tupF : SlR X (fun x lo hi H Q => ∃ a xs, x = .ref a ∧ SqT X.K H a xs ∧
    (HT.sIx xs.length 0 lo = 0 ∧ HT.sIx xs.length xs.length hi = xs.length → Q (.ref a) H) ∧ (¬ (HT.sIx xs.length 0 lo = 0 ∧ HT.sIx xs.length xs.length hi = xs.length) → ∀ p o, H p = none → o.dict = none → Q (.ref p) (upd H p (.frz o (.tup (cutV xs lo hi)))))) := by
  intro pins s σ H x v vl vu lo hi sl Q I rx hs pl pu h
  obtain ⟨a, xs, rfl, hx, q1, q2⟩ := h
  cases rx
  obtain ⟨us, r, ht, hz⟩ := I.tuple hx
  have hlen : us.toArray.size = xs.length := by rw [List.size_toArray, r.length]
  refine ⟨"tuple", _, PyProof.Rows.slot_tuple_getitem.lookup, ht.typeIs, ?_⟩
  by_cases hw : HT.sIx xs.length 0 lo = 0 ∧ HT.sIx xs.length xs.length hi = xs.length
  · exact getItem_tuple_whole ht hs pl pu (by rw [hlen]; exact hw) ⟨V.ref a, H, I, rfl, q1 hw⟩
  · refine HT.getItem_tuple_cut ht hs pl pu (by rw [hlen]; exact hw) ?_ ?_
    · rw [hlen]
      exact ⟨V.ref s.heap.objs.size, _, layT (tk := s.toks) I ((r.drop _).take _) (Nat.le_trans (cutV_length xs lo hi) hz), rfl, q2 hw _ _ (I.hok.fresh (Nat.le_refl _)) rfl⟩
    · rw [hlen]; exact hz
theorem cut_whole {xs : List Dv} {lo hi : Option Int} (h : HT.sIx xs.length 0 lo = 0 ∧ HT.sIx xs.length xs.length hi = xs.length) : cutD xs lo hi = xs := by
  unfold cutD
  rw [h.1, h.2, List.drop_zero, Nat.sub_zero, List.take_length]
theorem sl_all : SlR X (tSlz X.K ct) := by
  intro pins s σ H x v vl vu lo hi sl Q I rx hs pl pu h
  obtain ⟨ρ, M, d, r, dx, z, M', hf, hq⟩ := h
  unfold slD at hf
  split at hf
  · cases hf
    cases dx with
    | tup h1 d1 =>
      refine sl_tupF pins s σ H _ v vl vu lo hi sl Q I rx hs pl pu ⟨_, _, rfl, h1.sq, fun hw => ?_, fun _ p o hp ho => ?_⟩
      · rw [← d1.length] at hw
        exact hq ρ H .refl r _ (by rw [cut_whole hw]; exact .tup h1 d1)
      · exact hq ρ _ (Ext.fresh hp) (r.tup hp _) _ (.tup (TupD.new ho) ((d1.cut lo hi).mono (Ext.fresh hp)))
  · cases hf
    cases dx with
    | rol h1 d1 =>
      refine sl_list pins s σ H _ v vl vu lo hi sl Q I rx hs pl pu ⟨_, _, rfl, h1.sq, fun p hp => ?_⟩
      obtain ⟨r2, e2, h2⟩ := r.newL hp (d1.cut lo hi)
      exact hq _ _ e2 r2 _ (.loc h2)
  · split at hf
    · rename_i hm
      cases hf
      obtain ⟨a, vs, rfl, a1, a2, a3⟩ := r.lst hm dx
      refine sl_list pins s σ H _ v vl vu lo hi sl Q I rx hs pl pu ⟨_, _, rfl, SqL.of a2, fun p hp => ?_⟩
      obtain ⟨r2, e2, h2⟩ := r.newL hp (a3.cut lo hi)
      exact hq _ _ e2 r2 _ (.loc h2)
    · cases hf
  · split at hf
    · rename_i hz
      cases hf; cases dx
      exact sl_str pins s σ H _ v vl vu lo hi sl Q I rx hs pl pu ⟨_, rfl, hz, hq ρ H .refl r _ (.str _)⟩
    · cases hf
  · cases hf
def fSl (f : FE) (g h : FO) : FE := fun env M => bnd (f env M) fun d M1 => bnd (g env M1) fun lo M2 => bnd (h env M2) fun hi M3 => slD d lo hi M3
theorem se_slice {lo hi : Option Expr} {g h : FO} {p2 : Pos} (ha : SE X ct a fa) (hl : SPo X ct lo g) (hh : SPo X ct hi h) : SE X ct (.Subscript a (.Slice lo hi none p2) pos) (fSl fa g h) :=
  PE.imp (pe_slice sl_all ha hl hh) fun σ H Q ⟨ρ, M, env, r, he, d, M', hf, hq⟩ => by
    obtain ⟨x, M1, h1, hf⟩ := bnd_some hf
    obtain ⟨o, M2, h2, hf⟩ := bnd_some hf
    obtain ⟨o', M3, h3, hf⟩ := bnd_some hf
    exact ⟨ρ, M, env, r, he, x, M1, h1, fun ρ1 H1 e1 r1 v dv => ⟨ρ1, M1, env, r1, he.mono e1, o, M2, h2, fun ρ2 H2 e2 r2 => ⟨ρ2, M2, env, r2, (he.mono e1).mono e2, o', M3, h3, fun ρ3 H3 e3 r3 =>
      ⟨ρ3, M3, x, r3, (dv.mono e2).mono e3, d, M', hf, hq.later ((e1.trans e2).trans e3)⟩⟩⟩⟩
end
end Zl

/-! text Z5 -/
namespace Zl
open PySem L2 PySem.Spec PyProof.Rows

/-- the items of a thing that can be walked whole: tuple, list -/
def itemsD (M : Mem) : Dv → Option (List Dv)
  | .tup xs => some xs
  | .pr xs => some xs
  | .rol xs => some xs
  | .loc n => match M[n]? with
    | some (.lst xs) => some xs
    | _ => none
  | _ => none
def intsD : List Dv → Option (List Int)
  | [] => some []
  | .int i :: r => match intsD r with
    | some ns => some (i :: ns)
    | none => none
  | _ :: _ => none
def blsD : List Dv → Option (List Bool)
  | [] => some []
  | .bl b :: r => match blsD r with
    | some bs => some (b :: bs)
    | none => none
  | _ :: _ => none
section
variable {K : Frg} {ct : Ct} {ρ : List Addr} {M : Mem} {H : Hp}
theorem items_sq (r : Rl K ct ρ M H) {d : Dv} {v : V} {xs : List Dv} (h : DV K ρ H d v) (e : itemsD M d = some xs) : ∃ a vs, v = .ref a ∧ DVs K ρ H xs vs ∧ (SqL K H a vs ∨ SqT K H a vs) := by
  unfold itemsD at e
  split at e
  · cases e
    cases h with
    | tup hs hd => exact ⟨_, _, rfl, hd, .inr hs.sq⟩
  · cases e
    cases h with
    | pr hs hd => exact ⟨_, _, rfl, hd, .inr hs⟩
  · cases e
    cases h with
    | rol hs hd => exact ⟨_, _, rfl, hd, .inl hs.sq⟩
  · split at e
    · rename_i hm
      cases e
      obtain ⟨a, vs, rfl, a1, a2, a3⟩ := r.lst hm h
      exact ⟨a, vs, rfl, a3, .inl (SqL.of a2)⟩
    · cases e
  · cases e
theorem ints_of : ∀ {xs : List Dv} {vs : List V} {ns : List Int}, DVs K ρ H xs vs → intsD xs = some ns → vs = ns.map V.int
  | _, _, _, .nil, e => by cases e; rfl
  | .int i :: r, _, _, .cons h t, e => by
    unfold intsD at e
    split at e
    · rename_i ns hn
      cases e; cases h
      rw [ints_of t hn]; rfl
    · cases e
theorem bls_of : ∀ {xs : List Dv} {vs : List V} {ns : List Bool}, DVs K ρ H xs vs → blsD xs = some ns → vs = ns.map V.bl
  | _, _, _, .nil, e => by cases e; rfl
  | .bl i :: r, _, _, .cons h t, e => by
    unfold blsD at e
    split at e
    · rename_i ns hn
      cases e; cases h
      rw [bls_of t hn]; rfl
    · cases e
theorem dvs_nil {vs : List V} (h : DVs K ρ H [] vs) : vs = [] := by cases h; rfl
theorem dvs_one {d : Dv} {vs : List V} (h : DVs K ρ H [d] vs) : ∃ v, vs = [v] ∧ DV K ρ H d v := by
  cases h with
  | cons h t => cases t; exact ⟨_, rfl, h⟩
theorem dvs_two {d e : Dv} {vs : List V} (h : DVs K ρ H [d, e] vs) : ∃ v u, vs = [v, u] ∧ DV K ρ H d v ∧ DV K ρ H e u := by
  cases h with
  | cons h t =>
    obtain ⟨u, rfl, h2⟩ := dvs_one t
    exact ⟨_, u, rfl, h, h2⟩
end
def maxI : Int → List Int → Int
  | m, [] => m
  | m, x :: xs => maxI (if x > m then x else m) xs
def minI : Int → List Int → Int
  | m, [] => m
  | m, x :: xs => minI (if x < m then x else m) xs
theorem maxI_ok : ∀ (xs : List Int) (m : Int), maxI m xs ∈ m :: xs ∧ ∀ y ∈ m :: xs, y ≤ maxI m xs
  | [], m => ⟨by simp [maxI], by simp [maxI]⟩
  | x :: xs, m => by
    obtain ⟨h1, h2⟩ := maxI_ok xs (if x > m then x else m)
    have h3 := h2 _ List.mem_cons_self
    refine ⟨?_, fun y hy => ?_⟩
    · unfold maxI
      rcases List.mem_cons.mp h1 with e | e
      · rw [e]; split <;> simp
      · exact List.mem_cons_of_mem _ (List.mem_cons_of_mem _ e)
    · unfold maxI
      rcases List.mem_cons.mp hy with e | hy
      · have h4 : y ≤ (if x > y then x else y) := by split <;> omega
        subst e; omega
      · rcases List.mem_cons.mp hy with e | hy
        · have h4 : y ≤ (if y > m then y else m) := by split <;> omega
          subst e; omega
        · exact h2 _ (List.mem_cons_of_mem _ hy)
theorem minI_ok : ∀ (xs : List Int) (m : Int), minI m xs ∈ m :: xs ∧ ∀ y ∈ m :: xs, minI m xs ≤ y
  | [], m => ⟨by simp [minI], by simp [minI]⟩
  | x :: xs, m => by
    obtain ⟨h1, h2⟩ := minI_ok xs (if x < m then x else m)
    have h3 := h2 _ List.mem_cons_self
    refine ⟨?_, fun y hy => ?_⟩
    · unfold minI
      rcases List.mem_cons.mp h1 with e | e
      · rw [e]; split <;> simp
      · exact List.mem_cons_of_mem _ (List.mem_cons_of_mem _ e)
    · unfold minI
      rcases List.mem_cons.mp hy with e | hy
      · have h4 : (if x < y then x else y) ≤ y := by split <;> omega
        subst e; omega
      · rcases List.mem_cons.mp hy with e | hy
        · have h4 : (if y < m then y else m) ≤ y := by split <;> omega
          subst e; omega
        · exact h2 _ (List.mem_cons_of_mem _ hy)

section
variable {X : Cx} {ct : Ct} {e a b : Expr} {es : List Expr} {pos p : Pos} {fa fb : FE} {fr : FA}
/-! ### built-ins by values -/
def lenD : List Dv → Mem → Rz
  | [.str x], M => if x.length ≤ sizeLine then some (.int x.length, M) else none
  | [d], M => match itemsD M d with
    | some xs => some (.int xs.length, M)
    | none => none
  | _, _ => none
theorem sc_len : SC X ct (.builtin "len") lenD := by
  intro pins s σ H xs us Q I rv h
  obtain ⟨ρ, M, ds, r, dv, z, M', hf, hq⟩ := h
  unfold lenD at hf
  split at hf
  · split at hf
    · rename_i hl
      cases hf
      obtain ⟨v, rfl, d1⟩ := dvs_one dv
      cases d1
      exact call_len_str pins s σ H _ us Q I rv ⟨_, rfl, hl, hq ρ H .refl r _ (.int _)⟩
    · cases hf
  · split at hf
    · rename_i ys hy
      cases hf
      obtain ⟨v, rfl, d1⟩ := dvs_one dv
      obtain ⟨a, vs, rfl, d2, hs⟩ := items_sq r d1 hy
      refine call_len_seq pins s σ H _ us Q I rv ⟨_, _, rfl, hs, hq ρ H .refl r _ ?_⟩
      rw [d2.length]; exact .int _
    · cases hf
  · cases hf
def intD : List Dv → Mem → Rz
  | [.int i], M => some (.int i, M)
  | [.bl k], M => some (.int (if k then 1 else 0), M)
  | _, _ => none
theorem sc_int : SC X ct (.type "int") intD := by
  intro pins s σ H xs us Q I rv h
  obtain ⟨ρ, M, ds, r, dv, z, M', hf, hq⟩ := h
  unfold intD at hf
  split at hf
  · cases hf
    obtain ⟨v, rfl, d1⟩ := dvs_one dv
    cases d1
    exact call_int1 pins s σ H _ us Q I rv (.inl ⟨_, rfl, hq ρ H .refl r _ (.int _)⟩)
  · cases hf
    obtain ⟨v, rfl, d1⟩ := dvs_one dv
    cases d1
    exact call_int1 pins s σ H _ us Q I rv (.inr ⟨_, rfl, hq ρ H .refl r _ (.int _)⟩)
  · cases hf
def absD : List Dv → Mem → Rz
  | [.int i], M => some (.int (if i < 0 then -i else i), M)
  | _, _ => none
theorem sc_abs : SC X ct (.builtin "abs") absD := by
  intro pins s σ H xs us Q I rv h
  obtain ⟨ρ, M, ds, r, dv, z, M', hf, hq⟩ := h
  unfold absD at hf
  split at hf
  · cases hf
    obtain ⟨v, rfl, d1⟩ := dvs_one dv
    cases d1
    exact call_abs pins s σ H _ us Q I rv ⟨_, rfl, hq ρ H .refl r _ (.int _)⟩
  · cases hf
def maxD : List Dv → Mem → Rz
  | [.int i, .int j], M => some (.int (if j > i then j else i), M)
  | [.loc n], M => match M[n]? with
    | some (.lst xs) => match intsD xs with
      | some (m :: ms) => some (.int (maxI m ms), M)
      | _ => none
    | _ => none
  | _, _ => none
theorem sc_max (hc : X.calm = true) : SC X ct (.builtin "max") maxD := by
  intro pins s σ H xs us Q I rv h
  obtain ⟨ρ, M, ds, r, dv, z, M', hf, hq⟩ := h
  unfold maxD at hf
  split at hf
  · cases hf
    obtain ⟨v, u, rfl, d1, d2⟩ := dvs_two dv
    cases d1; cases d2
    exact call_max2 hc pins s σ H _ us Q I rv ⟨_, _, rfl, hq ρ H .refl r _ (.int _)⟩
  · split at hf
    · rename_i hm
      split at hf
      · rename_i m ms hi
        cases hf
        obtain ⟨v, rfl, d1⟩ := dvs_one dv
        obtain ⟨a, vs, rfl, a1, a2, a3⟩ := r.lst hm d1
        have e := ints_of a3 hi
        subst e
        refine cr_max hc pins s σ H _ us Q I rv ⟨_, _, rfl, SqL.of a2, by simp, fun k hk hy => ?_⟩
        obtain ⟨o1, o2⟩ := maxI_ok ms m
        have e1 := hy _ o1
        have e2 := o2 _ hk
        have e3 : k = maxI m ms := by omega
        subst e3
        exact hq ρ H .refl r _ (.int _)
      · cases hf
    · cases hf
  · cases hf
def minD : List Dv → Mem → Rz
  | [.int i, .int j], M => some (.int (if j < i then j else i), M)
  | [.loc n], M => match M[n]? with
    | some (.lst xs) => match intsD xs with
      | some (m :: ms) => some (.int (minI m ms), M)
      | _ => none
    | _ => none
  | _, _ => none
theorem sc_min (hc : X.calm = true) : SC X ct (.builtin "min") minD := by
  intro pins s σ H xs us Q I rv h
  obtain ⟨ρ, M, ds, r, dv, z, M', hf, hq⟩ := h
  unfold minD at hf
  split at hf
  · cases hf
    obtain ⟨v, u, rfl, d1, d2⟩ := dvs_two dv
    cases d1; cases d2
    exact call_min2 hc pins s σ H _ us Q I rv ⟨_, _, rfl, hq ρ H .refl r _ (.int _)⟩
  · split at hf
    · rename_i hm
      split at hf
      · rename_i m ms hi
        cases hf
        obtain ⟨v, rfl, d1⟩ := dvs_one dv
        obtain ⟨a, vs, rfl, a1, a2, a3⟩ := r.lst hm d1
        have e := ints_of a3 hi
        subst e
        refine cr_min hc pins s σ H _ us Q I rv ⟨_, _, rfl, SqL.of a2, by simp, fun k hk hy => ?_⟩
        obtain ⟨o1, o2⟩ := minI_ok ms m
        have e1 := hy _ o1
        have e2 := o2 _ hk
        have e3 : k = minI m ms := by omega
        subst e3
        exact hq ρ H .refl r _ (.int _)
      · cases hf
    · cases hf
  · cases hf
def sumD : List Dv → Mem → Rz
  | [.loc n], M => match M[n]? with
    | some (.lst xs) => match intsD xs with
      | some ns => some (.int ns.sum, M)
      | _ => none
    | _ => none
  | _, _ => none
theorem sc_sum (hc : X.calm = true) : SC X ct (.builtin "sum") sumD := by
  intro pins s σ H xs us Q I rv h
  obtain ⟨ρ, M, ds, r, dv, z, M', hf, hq⟩ := h
  unfold sumD at hf
  split at hf
  · split at hf
    · rename_i hm
      split at hf
      · rename_i ns hi
        cases hf
        obtain ⟨v, rfl, d1⟩ := dvs_one dv
        obtain ⟨a, vs, rfl, a1, a2, a3⟩ := r.lst hm d1
        have e := ints_of a3 hi
        subst e
        exact cr_sum hc pins s σ H _ us Q I rv ⟨_, _, rfl, SqL.of a2, hq ρ H .refl r _ (.int _)⟩
      · cases hf
    · cases hf
  · cases hf
def allD : List Dv → Mem → Rz
  | [.loc n], M => match M[n]? with
    | some (.lst xs) => match blsD xs with
      | some bs => some (.bl (bs.all id), M)
      | _ => none
    | _ => none
  | _, _ => none
def anyD : List Dv → Mem → Rz
  | [.loc n], M => match M[n]? with
    | some (.lst xs) => match blsD xs with
      | some bs => some (.bl (bs.any id), M)
      | _ => none
    | _ => none
  | _, _ => none
theorem sc_all (hc : X.calm = true) : SC X ct (.builtin "all") allD := by
  intro pins s σ H xs us Q I rv h
  obtain ⟨ρ, M, ds, r, dv, z, M', hf, hq⟩ := h
  unfold allD at hf
  split at hf
  · split at hf
    · rename_i hm
      split at hf
      · rename_i ns hi
        cases hf
        obtain ⟨v, rfl, d1⟩ := dvs_one dv
        obtain ⟨a, vs, rfl, a1, a2, a3⟩ := r.lst hm d1
        have e := bls_of a3 hi
        subst e
        exact cr_all hc pins s σ H _ us Q I rv ⟨_, _, rfl, SqL.of a2, hq ρ H .refl r _ (.bl _)⟩
      · cases hf
    · cases hf
  · cases hf
theorem sc_any (hc : X.calm = true) : SC X ct (.builtin "any") anyD := by
  intro pins s σ H xs us Q I rv h
  obtain ⟨ρ, M, ds, r, dv, z, M', hf, hq⟩ := h
  unfold anyD at hf
  split at hf
  · split at hf
    · rename_i hm
      split at hf
      · rename_i ns hi
        cases hf
        obtain ⟨v, rfl, d1⟩ := dvs_one dv
        obtain ⟨a, vs, rfl, a1, a2, a3⟩ := r.lst hm d1
        have e := bls_of a3 hi
        subst e
        exact cr_any hc pins s σ H _ us Q I rv ⟨_, _, rfl, SqL.of a2, hq ρ H .refl r _ (.bl _)⟩
      · cases hf
    · cases hf
  · cases hf
/-- tuple(list): locked; tuple(tuple): itself -/
theorem call_tupF : CallR X (.type "tuple") (fun xs H Q => ∃ p ys, xs = [.ref p] ∧ ((SqL X.K H p ys ∧ ∀ l o, H l = none → o.dict = none → Q (.ref l) (upd H l (.frz o (.tup ys)))) ∨ (SqT X.K H p ys ∧ Q (.ref p) H))) := by
  intro pins s σ H xs us Q I rv h
  obtain ⟨p, ys, rfl, h⟩ := h
  obtain ⟨u, rfl, rx⟩ := vals1 rv
  cases rx
  rcases h with ⟨hl, q⟩ | ⟨ht, q⟩
  · obtain ⟨ws, rw', pl, hz⟩ := I.list hl
    have hlen := rw'.length
    refine call_tuple_list pl.isList (fun h' kp => ?_) (by simp only [List.size_toArray]; omega)
    have J : Inv X pins σ H { s with heap := h' } := I.kept (t' := s.toks) kp
    exact ⟨V.ref h'.objs.size, _, layT (tk := s.toks) J rw' hz, rfl, q _ _ (J.hok.fresh (Nat.le_refl _)) rfl⟩
  · obtain ⟨ws, rw', pl, hz⟩ := I.tuple ht
    exact call_tuple_same pl ⟨V.ref p, H, I, rfl, q⟩
def tupD : List Dv → Mem → Rz
  | [.tup xs], M => some (.tup xs, M)
  | [.loc n], M => match M[n]? with
    | some (.lst xs) => some (.tup xs, M)
    | _ => none
  | _, _ => none
theorem sc_tuple : SC X ct (.type "tuple") tupD := by
  intro pins s σ H xs us Q I rv h
  obtain ⟨ρ, M, ds, r, dv, z, M', hf, hq⟩ := h
  unfold tupD at hf
  split at hf
  · cases hf
    obtain ⟨v, rfl, d1⟩ := dvs_one dv
    cases d1 with
    | tup hs hd => exact call_tupF pins s σ H _ us Q I rv ⟨_, _, rfl, .inr ⟨hs.sq, hq ρ H .refl r _ (.tup hs hd)⟩⟩
  · split at hf
    · rename_i hm
      cases hf
      obtain ⟨v, rfl, d1⟩ := dvs_one dv
      obtain ⟨a, vs, rfl, a1, a2, a3⟩ := r.lst hm d1
      exact call_tupF pins s σ H _ us Q I rv ⟨_, _, rfl, .inl ⟨SqL.of a2, fun p o hp ho => hq ρ _ (Ext.fresh hp) (r.tup hp _) _ (.tup (TupD.new ho) (a3.mono (Ext.fresh hp)))⟩⟩
    · cases hf
  · cases hf
def lstD : List Dv → Mem → Rz
  | [d], M => match itemsD M d with
    | some xs => some (.loc M.length, M ++ [.lst xs])
    | none => none
  | _, _ => none
theorem sc_list : SC X ct (.type "list") lstD := by
  intro pins s σ H xs us Q I rv h
  obtain ⟨ρ, M, ds, r, dv, z, M', hf, hq⟩ := h
  unfold lstD at hf
  split at hf
  · split at hf
    · rename_i ys hy
      cases hf
      obtain ⟨v, rfl, d1⟩ := dvs_one dv
      obtain ⟨a, vs, rfl, d2, hs⟩ := items_sq r d1 hy
      refine call_list_of pins s σ H _ us Q I rv ⟨_, _, rfl, hs, fun p hp => ?_⟩
      obtain ⟨r2, e2, h2⟩ := r.newL hp d2
      exact hq _ _ e2 r2 _ (.loc h2)
    · cases hf
  · cases hf
def divmodD : List Dv → Mem → Rz
  | [.int i, .int j], M => if 0 < j ∧ j < 1073741824 then some (.pr [.int (i / j), .int (i % j)], M) else none
  | _, _ => none
theorem sc_divmod : SC X ct (.builtin "divmod") divmodD := by
  intro pins s σ H xs us Q I rv h
  obtain ⟨ρ, M, ds, r, dv, z, M', hf, hq⟩ := h
  unfold divmodD at hf
  split at hf
  · split at hf
    · rename_i hl
      cases hf
      obtain ⟨v, u, rfl, d1, d2⟩ := dvs_two dv
      cases d1; cases d2
      exact call_divmod pins s σ H _ us Q I rv ⟨_, _, rfl, hl, fun p hp => hq ρ _ (Ext.fresh hp) (r.tup hp _) _ (.pr (SqT.of upd_same) (.cons (.int _) (.cons (.int _) .nil)))⟩
    · cases hf
  · cases hf
/-! ### isinstance of a built-in type -/
def tyName (M : Mem) : Dv → Option String
  | .non => some "NoneType"
  | .bl _ => some "bool"
  | .int _ => some "int"
  | .str _ => some "str"
  | .tup _ => some "tuple"
  | .rol _ => some "list"
  | .loc n => match M[n]? with
    | some (.lst _) => some "list"
    | some (.dct _) => some "dict"
    | _ => none
  | _ => none
def tyIs (T a : String) : Bool := a == T || (T == "int" && a == "bool")
def isiD : List Dv → Mem → Rz
  | [d, .ty T], M => if ["int", "bool", "str", "tuple", "list"].contains T then match tyName M d with
      | some a => some (.bl (tyIs T a), M)
      | none => none
    else none
  | _, _ => none
theorem kit_all : (["int", "bool", "str", "tuple", "list"].all fun T => ["NoneType", "bool", "int", "str", "tuple", "list", "dict"].all fun a => kitB a T == some (tyIs T a)) = true := by decide +kernel
theorem kit_two {T a : String} (h1 : ["int", "bool", "str", "tuple", "list"].contains T = true) (h2 : ["NoneType", "bool", "int", "str", "tuple", "list", "dict"].contains a = true) : kitB a T = some (tyIs T a) := by
  have h := kit_all
  rw [List.all_eq_true] at h
  have h3 := h T (by simpa using h1)
  rw [List.all_eq_true] at h3
  exact eq_of_beq (h3 a (by simpa using h2))
theorem tyName_ok {ρ : List Addr} {M : Mem} {H : Hp} {K : Frg} (r : Rl K ct ρ M H) {d : Dv} {v : V} {a : String} (h : DV K ρ H d v) (e : tyName M d = some a) :
    TyX K H v (.type a) ∧ ["NoneType", "bool", "int", "str", "tuple", "list", "dict"].contains a = true := by
  unfold tyName at e
  split at e
  · cases e; cases h; exact ⟨.base .non, by decide⟩
  · cases e; cases h; exact ⟨.base (.bl _), by decide⟩
  · cases e; cases h; exact ⟨.base (.int _), by decide⟩
  · cases e; cases h; exact ⟨.base (.str _), by decide⟩
  · cases e
    cases h with
    | tup hs hd =>
      refine ⟨?_, by decide⟩
      rcases hs with ⟨o, hs, _⟩ | ⟨o, its, n, h1, h2, _⟩
      · exact .fTuple hs
      · exact .kTuple h1 h2
  · cases e
    cases h with
    | rol hs hd =>
      refine ⟨?_, by decide⟩
      rcases hs with ⟨o, hs⟩ | ⟨_, o, h1, h2⟩
      · exact .base (.frz hs)
      · exact .kList h1 h2
  · split at e
    · rename_i hm
      cases e
      obtain ⟨a, vs, rfl, a1, a2, a3⟩ := r.lst hm h
      exact ⟨.base (.lst a2), by decide⟩
    · rename_i hm
      cases e
      obtain ⟨a, h1, vs, h2, h3, h4⟩ := r.ok _ _ hm
      cases h with
      | loc h => rw [h] at h1; cases h1; exact ⟨.base (.dK h2), by decide⟩
    · cases e
  · cases e
theorem sc_isi : SC X ct (.builtin "isinstance") isiD := by
  intro pins s σ H xs us Q I rv h
  obtain ⟨ρ, M, ds, r, dv, z, M', hf, hq⟩ := h
  unfold isiD at hf
  split at hf
  · split at hf
    · rename_i hT
      split at hf
      · rename_i a ha
        cases hf
        obtain ⟨v, u, rfl, d1, d2⟩ := dvs_two dv
        cases d2
        obtain ⟨t1, t2⟩ := tyName_ok r d1 ha
        exact call_isi pins s σ H _ us Q I rv ⟨v, _, _, _, _, rfl, .ty _, t1, kit_ty (kit_two hT t2), hq ρ H .refl r _ (.bl _)⟩
      · cases hf
    · cases hf
  · cases hf
/-- a built-in class by its name, as a value -/
theorem se_ty {x : Str} {T : String} (hg : Gl X x) (hm : X.mg x = none) (hv : bootBuiltins x = some (.type T)) (hn : x ≠ "__name__" := by decide) (hd : (x == ("__debug__" : Str)) = false := by decide) : SE X ct (.Name x pos) (fK (.ty T)) :=
  PE.imp (pe_bltn (v := .ty T) hg hm hv rfl hn hd) fun _ _ _ h => tE.const (fun _ _ => .ty T) h
/-! ### repr -/
def reprD : List Dv → Mem → Rz
  | [d], M => match d with
    | .int i => if i.natAbs.log2 < 1920 then some (.str (toString i), M) else none
    | .tup _ | .rol _ | .loc _ => match rd M deep d with
      | some p => if p.showable = true ∧ p.hasDict = false ∧ p.depth ≤ 60 ∧ p.shown.length ≤ sizeLine then some (.str p.shown, M) else none
      | none => none
    | _ => none
  | _, _ => none
theorem sc_repr (hg : X.A.guards = some []) (hu : X.A.units + 64 < cLine) : SC X ct (.builtin "repr") reprD := by
  intro pins s σ H xs us Q I rv h
  obtain ⟨ρ, M, ds, r, dv, z, M', hf, hq⟩ := h
  have deepen : ∀ {d : Dv} {v : V} {a : Addr}, DV X.K ρ H d v → v = .ref a → xs = [v] → (match rd M deep d with
      | some p => if p.showable = true ∧ p.hasDict = false ∧ p.depth ≤ 60 ∧ p.shown.length ≤ sizeLine then some (Dv.str p.shown, M) else none
      | none => none) = some (z, M') → wpAny (model X.prog X.w) X.A (call (.builtin "repr") us) (EP X pins σ Q) X.xe s := by
    intro d v a hd ev ex hf
    subst ex; subst ev
    split at hf
    · rename_i p hp
      split at hf
      · rename_i hs
        cases hf
        obtain ⟨u, rfl, ru⟩ := vals1 rv
        cases ru
        obtain ⟨as, hr⟩ := Dp.reads I _ _ _ (rd_dp r _ hd hp) rfl
        refine repr_of_reads' hr hs.1 (PyData.noDict_hsm hs.2.1) hg (by omega) (fun _ _ q => q) (fun h' t tk hk => ?_) hs.2.2.2
        exact ⟨V.str p.shown, H, I.kept (t' := tk) hk, ⟨_, rfl⟩, hq ρ H .refl r _ (.str _)⟩
      · cases hf
    · cases hf
  unfold reprD at hf
  split at hf
  · rename_i d _
    obtain ⟨v, ex, d1⟩ := dvs_one dv
    split at hf
    · split at hf
      · rename_i hl
        cases hf; cases d1; subst ex
        exact SkE.call_repr_int pins s σ H _ us Q I rv ⟨_, rfl, hl, hq ρ H .refl r _ (.str _)⟩
      · cases hf
    · have d2 := d1
      cases d1
      exact deepen d2 rfl ex hf
    · have d2 := d1
      cases d1
      exact deepen d2 rfl ex hf
    · have d2 := d1
      cases d1
      exact deepen d2 rfl ex hf
    · cases hf
  · cases hf
end
end Zl

/-! text Z6 -/
namespace Zl
open PySem L2 PySem.Spec PyProof.Rows

abbrev FM := Dv → List Dv → Mem → Rz
def tMt (K : Frg) (ct : Ct) (h : FM) : V → List V → Hp → VK → Prop := fun x xs H Q => ∃ ρ M d ds, Rl K ct ρ M H ∧ DV K ρ H d x ∧ DVs K ρ H ds xs ∧ ∃ z M', h d ds M = some (z, M') ∧ Aft K ct ρ H M' fun ρ' H' => ∀ v, DV K ρ' H' z v → Q v H'
abbrev SM (X : Cx) (ct : Ct) (id : String) (h : FM) : Prop := MtR X id (tMt X.K ct h)
/-- of which built-in type the receiver is -/
def isTy (T : String) (d : Dv) (M : Mem) : Bool :=
  match d with
  | .tup _ => T == "tuple"
  | .rol _ => T == "list"
  | .str _ => T == "str"
  | .loc n => match M[n]? with
    | some (.lst _) => T == "list"
    | _ => false
  | _ => false
section
variable {X : Cx} {ct : Ct} {e o : Expr} {es : List Expr} {apos cpos : Pos} {fo : FE} {fr : FA} {h : FM} {T id : String} {name : Str}
theorem isTy_ok {pins : List (Addr × Obj)} {σ : L2.St} {H : Hp} {s : Shared} {ρ : List Addr} {M : Mem} {d : Dv} {x : V} {v : Value} (I : Inv X pins σ H s) (r : Rl X.K ct ρ M H) (dx : DV X.K ρ H d x) (rx : RelV x v) (ht : isTy T d M = true) :
    s.TypeIs v T ∧ ∀ a, v = .ref a → ∃ ob, s.heap.get? a = some ob ∧ ob.dict = none := by
  unfold isTy at ht
  split at ht
  · have e : T = "tuple" := by simpa using ht
    subst e
    cases dx with
    | tup hs hd =>
      cases rx
      rcases hs with ⟨o, h1, h2⟩ | ⟨o, its, n, h1, h2, h3, h4⟩
      · obtain ⟨g, _, us, _, ob, g2, g3, _⟩ := I.hok _ _ h1
        rw [g] at g2; cases g2
        exact ⟨⟨o, g, g3⟩, fun a e => by cases e; exact ⟨o, g, h2⟩⟩
      · exact ⟨⟨o, I.kIn _ _ h1, h2⟩, fun a e => by cases e; exact ⟨o, I.kIn _ _ h1, h3⟩⟩
  · have e : T = "list" := by simpa using ht
    subst e
    cases dx with
    | rol hs hd => exact tyV_is I rx (.inl ⟨rfl, _, hs.sq⟩)
  · have e : T = "str" := by simpa using ht
    subst e
    cases dx
    exact tyV_is I rx (rfl : tyV X.K "str" (V.str _) H)
  · split at ht
    · rename_i hm
      have e : T = "list" := by simpa using ht
      subst e
      obtain ⟨a, vs, rfl, a1, a2, a3⟩ := r.lst hm dx
      exact tyV_is I rx (.inl ⟨rfl, _, SqL.of a2⟩)
    · exact absurd ht (by decide)
  · exact absurd ht (by decide)
/-- o.m(e, ..) of a built-in type -/
def fM (T : String) (h : FM) (fo : FE) (fr : FA) : FE := fun env M => bnd (fo env M) fun d M1 => if isTy T d M1 then bnd (fr env M1) fun ds M2 => h d ds M2 else none
theorem se_bm (pa : PlainAttrs T) (slot : Slot T name id) (hty : typeOf (.builtin id) = pure (.type "method_descriptor")) (hm : SM X ct id h) (ho : SE X ct o fo) (ha : SA X ct (e :: es) fr)
    (hbase : attributeBase o name X.env (eval o X.env) = eval o X.env := by rfl)
    (hfew : ((backTo cpos (starEach (e :: es) X.env)).all (fun x => !x.1) && (backToKw cpos (keywordEach [] X.env)).all (fun x => x.1.isSome)
      && decide ((e :: es).length + ([] : List Keyword).length + (if ([] : List Keyword).isEmpty then 0 else 1) < 30)) = true := by rfl)
    (hline : (apos.endLine == cpos.line) = true := by rfl)
    (hs : starEach (e :: es) X.env = (false, eval e X.env) :: starEach es X.env := by rfl)
    (hplain : (backTo cpos (starEach es X.env)).any (·.1) = false := by rfl) :
    SE X ct (.Call (.Attribute o name apos) (e :: es) [] cpos) (fM T h fo fr) := by
  refine ⟨fun pins s σ H Q I w => ?_⟩
  obtain ⟨ρ, M, env, r, he, d, M', hf, hq⟩ := w
  obtain ⟨x, M1, h1, hf⟩ := bnd_some hf
  split at hf
  · rename_i ht
    obtain ⟨ys, M2, h2, hf⟩ := bnd_some hf
    refine wpAny_Call_method_late hbase hfew hline rfl (thn (ho.run pins s σ H (fun v H1 => ∃ ρ1, Ext X.K ρ H ρ1 H1 ∧ Rl X.K ct ρ1 M1 H1 ∧ DV X.K ρ1 H1 x v) I ⟨ρ, M, env, r, he, x, M1, h1, fun ρ1 H1 e1 r1 v dv => ⟨ρ1, e1, r1, dv⟩⟩) fun v s1 hv => ?_)
    obtain ⟨y, H1, I1, ry, ρ1, e1, r1, dy⟩ := hv
    obtain ⟨t1, t2⟩ := isTy_ok I1 r1 dy ry ht
    refine ⟨T, id, pa, slot, hty, t1, t2, ?_⟩
    have hA := ha.run cpos pins s1 σ H1 (fun vs H2 => ∃ ρ2, Ext X.K ρ1 H1 ρ2 H2 ∧ Rl X.K ct ρ2 M2 H2 ∧ DVs X.K ρ2 H2 ys vs) I1 ⟨ρ1, M1, env, r1, he.mono e1, ys, M2, h2, fun ρ2 H2 e2 r2 vs dvs => ⟨ρ2, e2, r2, dvs⟩⟩
    rw [hs] at hA ⊢
    refine Calls.callWith_builtin (by show (false || (backTo cpos (starEach es X.env)).any fun z => z.1) = false; rw [hplain]; rfl) (Calls.evalArgs_plain (thn hA fun us s2 hus => ?_))
    obtain ⟨vs, H2, I2, rvs, ρ2, e2, r2, dvs⟩ := hus
    exact hm pins s2 σ H2 y vs v us Q I2 ry rvs ⟨ρ2, M2, x, ys, r2, dy.mono e2, dvs, d, M', hf, hq.later (e1.trans e2)⟩
  · cases hf
theorem se_bm0 (pa : PlainAttrs T) (slot : Slot T name id) (hty : typeOf (.builtin id) = pure (.type "method_descriptor")) (hm : SM X ct id h) (ho : SE X ct o fo)
    (hbase : attributeBase o name X.env (eval o X.env) = eval o X.env := by rfl) (hline : (apos.endLine == cpos.line) = true := by rfl) :
    SE X ct (.Call (.Attribute o name apos) [] [] cpos) (fM T h fo fNil) := by
  refine ⟨fun pins s σ H Q I w => ?_⟩
  obtain ⟨ρ, M, env, r, he, d, M', hf, hq⟩ := w
  obtain ⟨x, M1, h1, hf⟩ := bnd_some hf
  split at hf
  · rename_i ht
    obtain ⟨ys, M2, h2, hf⟩ := bnd_some hf
    cases h2
    refine wpAny_Call_method0_late hbase hline (thn (ho.run pins s σ H (fun v H1 => ∃ ρ1, Ext X.K ρ H ρ1 H1 ∧ Rl X.K ct ρ1 _ H1 ∧ DV X.K ρ1 H1 x v) I ⟨ρ, M, env, r, he, x, _, h1, fun ρ1 H1 e1 r1 v dv => ⟨ρ1, e1, r1, dv⟩⟩) fun v s1 hv => ?_)
    obtain ⟨y, H1, I1, ry, ρ1, e1, r1, dy⟩ := hv
    obtain ⟨t1, t2⟩ := isTy_ok I1 r1 dy ry ht
    refine ⟨T, id, pa, slot, hty, t1, t2, ?_⟩
    refine Calls.callWith_builtin rfl (PySem.evalArgs_none ?_)
    exact hm pins s1 σ H1 y [] v [] Q I1 ry .nil ⟨ρ1, _, x, [], r1, dy, .nil, d, M', hf, hq.later e1⟩
  · cases hf
/-! ### lists -/
def appendD : FM
  | .loc n, [x], M => match M[n]? with
    | some (.lst xs) => if xs.length < sizeLine then some (.non, M.set n (.lst (xs ++ [x]))) else none
    | _ => none
  | _, _, _ => none
theorem sm_append : SM X ct "list.append" appendD := by
  intro pins s σ H x xs v us Q I rx rxs w
  obtain ⟨ρ, M, d, ds, r, dx, dxs, z, M', hf, hq⟩ := w
  unfold appendD at hf
  split at hf
  · split at hf
    · rename_i hm
      split at hf
      · rename_i hl
        cases hf
        obtain ⟨a, vs, rfl, a1, a2, a3⟩ := r.lst hm dx
        obtain ⟨y, rfl, dy⟩ := dvs_one dxs
        obtain ⟨r2, e2⟩ := r.putL a1 a2 (a3.append (.cons dy .nil))
        exact mt_append pins s σ H _ _ v us Q I rx rxs ⟨a, vs, y, rfl, rfl, a2, by rw [← a3.length]; exact hl, hq ρ _ e2 r2 _ .non⟩
      · cases hf
    · cases hf
  · cases hf
def extendD : FM
  | .loc n, [.loc m], M => match M[n]?, M[m]? with
    | some (.lst xs), some (.lst ys) => if xs.length + ys.length ≤ sizeLine then some (.non, M.set n (.lst (xs ++ ys))) else none
    | _, _ => none
  | _, _, _ => none
theorem sm_extend : SM X ct "list.extend" extendD := by
  intro pins s σ H x xs v us Q I rx rxs w
  obtain ⟨ρ, M, d, ds, r, dx, dxs, z, M', hf, hq⟩ := w
  unfold extendD at hf
  split at hf
  · split at hf
    · rename_i hm hm2
      split at hf
      · rename_i hl
        cases hf
        obtain ⟨a, vs, rfl, a1, a2, a3⟩ := r.lst hm dx
        obtain ⟨y, rfl, dy⟩ := dvs_one dxs
        obtain ⟨b, ws, rfl, b1, b2, b3⟩ := r.lst hm2 dy
        obtain ⟨r2, e2⟩ := r.putL a1 a2 (a3.append b3)
        exact mt_extend pins s σ H _ _ v us Q I rx rxs ⟨a, b, vs, ws, rfl, rfl, a2, b2, by rw [← a3.length, ← b3.length]; exact hl, hq ρ _ e2 r2 _ .non⟩
      · cases hf
    · cases hf
  · cases hf
/-- pop(): the last one; pop(i) -/
def popD : FM
  | .loc n, [], M => match M[n]? with
    | some (.lst xs) => match xs[xs.length - 1]? with
      | some d => some (d, M.set n (.lst xs.dropLast))
      | none => none
    | _ => none
  | .loc n, [.int i], M => match M[n]? with
    | some (.lst xs) => if -(2 ^ 63) ≤ i ∧ i < 2 ^ 63 then match seqIndex? i xs.length with
        | some k => match xs[k]? with
          | some d => some (d, M.set n (.lst (xs.eraseIdx k)))
          | none => none
        | none => none
      else none
    | _ => none
  | _, _, _ => none
theorem DVs.dropLast {K : Frg} {ρ : List Addr} {H : Hp} {ds : List Dv} {vs : List V} (h : DVs K ρ H ds vs) : DVs K ρ H ds.dropLast vs.dropLast := by
  rw [List.dropLast_eq_take, List.dropLast_eq_take, h.length]
  exact h.take _
theorem DVs.eraseIdx {K : Frg} {ρ : List Addr} {H : Hp} : ∀ {ds : List Dv} {vs : List V} (i : Nat), DVs K ρ H ds vs → DVs K ρ H (ds.eraseIdx i) (vs.eraseIdx i)
  | _, _, _, .nil => .nil
  | _, _, 0, .cons _ t => t
  | _, _, i + 1, .cons r t => .cons r (DVs.eraseIdx i t)
theorem sm_pop : SM X ct "list.pop" popD := by
  intro pins s σ H x xs v us Q I rx rxs w
  obtain ⟨ρ, M, d, ds, r, dx, dxs, z, M', hf, hq⟩ := w
  unfold popD at hf
  split at hf
  · split at hf
    · rename_i hm
      split at hf
      · rename_i d0 hd
        cases hf
        obtain ⟨a, vs, rfl, a1, a2, a3⟩ := r.lst hm dx
        have := dvs_nil dxs; subst this
        obtain ⟨r2, e2⟩ := r.putL a1 a2 a3.dropLast
        obtain ⟨w, h1, h2⟩ := a3.get hd
        rw [a3.length] at h1
        exact mt_pop pins s σ H _ _ v us Q I rx rxs ⟨a, vs, w, rfl, rfl, a2, h1, hq ρ _ e2 r2 _ (h2.mono e2)⟩
      · cases hf
    · cases hf
  · split at hf
    · rename_i hm
      split at hf
      · rename_i hb
        split at hf
        · rename_i k hk
          split at hf
          · rename_i d0 hd
            cases hf
            obtain ⟨a, vs, rfl, a1, a2, a3⟩ := r.lst hm dx
            obtain ⟨y, rfl, dy⟩ := dvs_one dxs
            cases dy
            obtain ⟨r2, e2⟩ := r.putL a1 a2 (a3.eraseIdx k)
            obtain ⟨w, h1, h2⟩ := a3.get hd
            exact mt_popAt pins s σ H _ _ v us Q I rx rxs ⟨a, vs, _, k, w, rfl, rfl, a2, hb.1, hb.2, by rw [← a3.length]; exact hk, h1, hq ρ _ e2 r2 _ (h2.mono e2)⟩
          · cases hf
        · cases hf
      · cases hf
    · cases hf
  · cases hf
/-- index: the first equal one; flat values, or data of any depth in a list -/
def indexD : FM
  | .loc n, [x], M => match M[n]? with
    | some (.lst ys) => if flatD x && ys.all flatD then match idxB (fun y => eqF y x) ys with
        | some j => some (.int (j : Nat), M)
        | none => none
      else match rd M deep x, rdL (rd M deep) ys with
      | some p, some ps => if SeqAt.shaped p = true ∧ SeqAt.shaped (.list ps) = true then match ps.findIdx? fun z => PyData.eqv z p with
          | some j => some (.int (j : Nat), M)
          | none => none
        else none
      | _, _ => none
    | _ => none
  | _, _, _ => none
theorem sm_index (hu : X.A.units + 65 < cLine) : SM X ct "list.index" indexD := by
  intro pins s σ H x xs v us Q I rx rxs w
  obtain ⟨ρ, M, d, ds, r, dx, dxs, z, M', hf, hq⟩ := w
  unfold indexD at hf
  split at hf
  · split at hf
    · rename_i ys hm
      obtain ⟨a, vs, rfl, a1, a2, a3⟩ := r.lst hm dx
      obtain ⟨y, rfl, dy⟩ := dvs_one dxs
      split at hf
      · rename_i hl
        rw [Bool.and_eq_true] at hl
        split at hf
        · rename_i j hj
          cases hf
          obtain ⟨⟨w, h1, h2⟩, h3⟩ := idxB_some hj
          obtain ⟨u, h4, h5⟩ := a3.get h1
          have fl : ∀ {m : Nat} {c : Dv}, ys[m]? = some c → flatD c = true := fun {m c} hc => List.all_eq_true.mp hl.2 c (List.mem_of_getElem? hc)
          refine mt_index pins s σ H _ _ v us Q I rx rxs ⟨a, vs, y, j, u, rfl, rfl, SqL.of a2, by rw [flat_of dy]; exact hl.1, by rw [flats_of a3]; exact hl.2, h4, by rw [eq_of h5 dy (fl h1) hl.1]; exact h2, fun m w' hm' hw' => ?_, hq ρ H .refl r _ (.int _)⟩
          obtain ⟨c, c1, c2⟩ := a3.back hw'
          rw [eq_of c2 dy (fl c1) hl.1]
          exact h3 m c hm' c1
        · cases hf
      · split at hf
        · rename_i p ps hp hps
          split at hf
          · rename_i hs
            split at hf
            · rename_i j hj
              cases hf
              obtain ⟨h1, h2, h3⟩ := List.findIdx?_eq_some_iff_getElem.mp hj
              refine mt_indexD hu pins s σ H _ _ v us Q I rx rxs ⟨a, y, p, ps, j, ps[j], rfl, rfl, .lst (SqL.of a2) (rdL_dp (fun d v p h1 h2 => rd_dp r _ h1 h2) a3 hps), rd_dp r _ dy hp, hs.2, hs.1, List.getElem?_eq_getElem h1, h2, fun m w' hm' hw' => ?_, hq ρ H .refl r _ (.int _)⟩
              obtain ⟨g1, g2⟩ := List.getElem?_eq_some_iff.mp hw'
              subst g2
              have := h3 m hm'
              simpa using this
            · cases hf
          · cases hf
        · cases hf
    · cases hf
  · cases hf
/-! ### tuples: count, index of flat values -/
def tcountD : FM
  | .tup ys, [x], M => if flatD x && ys.all flatD then some (.int (ys.countP fun y => eqF y x : Nat), M) else none
  | _, _, _ => none
theorem count_eqU {K : Frg} {ρ : List Addr} {H : Hp} {x : Dv} {w : V} (hx : DV K ρ H x w) (fx : flatD x = true) : ∀ {ys : List Dv} {vs : List V} {us : List Value}, DVs K ρ H ys vs → Vals vs us → ys.all flatD = true → us.countP (eqU w) = ys.countP fun y => eqF y x
  | _, _, _, .nil, .nil, _ => rfl
  | _, _, _, .cons h t, .cons r rt, f => by
    rw [List.all_cons, Bool.and_eq_true] at f
    have e : eqU w _ = eqF _ x := (eqU_of r (by rw [flat_of h]; exact f.1)).trans (eq_of h hx f.1 fx)
    rw [List.countP_cons, List.countP_cons, count_eqU hx fx t rt f.2, e]
theorem sm_tcount : SM X ct "tuple.count" tcountD := by
  intro pins s σ H x xs v us Q I rx rxs w
  obtain ⟨ρ, M, d, ds, r, dx, dxs, z, M', hf, hq⟩ := w
  unfold tcountD at hf
  split at hf
  · split at hf
    · rename_i hl
      rw [Bool.and_eq_true] at hl
      cases hf
      obtain ⟨y, rfl, dy⟩ := dvs_one dxs
      obtain ⟨u, rfl, ru⟩ := vals1 rxs
      cases dx with
      | tup hs hd =>
        cases rx
        obtain ⟨ws, rw', ⟨⟨cls, dd, data, sl⟩, ho, hc, n, hd'⟩, hz⟩ := I.tuple hs.sq
        simp only at hc hd'
        subst hc hd'
        refine call_meets PySem.F.slot_tuple_count ⟨_, ho, rfl⟩ PySem.F.entry_tuple_count (PySem.F.args_tuple_count_2 _ _)
          (SeqAt.tuple_countAt _ ws.toArray n dd sl u (eqU y)) ⟨ho, fun c hc => mem_eqAt ru (by rw [flat_of dy]; exact hl.1) rw' (by rw [flats_of hd]; exact hl.2) c (by simpa using hc), ?_⟩
        refine ⟨V.int (ws.countP (eqU y) : Nat), H, I.tok _, ⟨s.toks, rfl⟩, ?_⟩
        rw [count_eqU dy hl.1 hd rw' hl.2]
        exact hq ρ H .refl r _ (.int _)
    · cases hf
  · cases hf
def tindexD : FM
  | .tup ys, [x], M => if flatD x && ys.all flatD then match idxB (fun y => eqF y x) ys with
      | some j => some (.int (j : Nat), M)
      | none => none
    else none
  | _, _, _ => none
theorem sm_tindex : SM X ct "tuple.index" tindexD := by
  intro pins s σ H x xs v us Q I rx rxs w
  obtain ⟨ρ, M, d, ds, r, dx, dxs, z, M', hf, hq⟩ := w
  unfold tindexD at hf
  split at hf
  · rename_i _ ys _
    split at hf
    · rename_i hl
      rw [Bool.and_eq_true] at hl
      split at hf
      · rename_i j hj
        cases hf
        obtain ⟨y, rfl, dy⟩ := dvs_one dxs
        obtain ⟨u, rfl, ru⟩ := vals1 rxs
        obtain ⟨⟨w, h1, h2⟩, h3⟩ := idxB_some hj
        have fl : ∀ {m : Nat} {c : Dv}, ys[m]? = some c → flatD c = true := fun {m c} hc => List.all_eq_true.mp hl.2 c (List.mem_of_getElem? hc)
        cases dx with
        | tup hs hd =>
          cases rx
          obtain ⟨ws, rw', ⟨⟨cls, dd, data, sl⟩, ho, hc, n, hd'⟩, hz⟩ := I.tuple hs.sq
          simp only at hc hd'
          subst hc hd'
          have at_ : ∀ {m : Nat} (hm : m < ws.toArray.size), ∃ c, ys[m]? = some c ∧ eqU y ws.toArray[m] = eqF c _ := fun {m} hm => by
            have hm1 : m < ws.length := by simpa using hm
            have hm2 : m < ys.length := by rw [hd.length, rw'.length]; exact hm1
            have e1 : ys[m]? = some ys[m] := List.getElem?_eq_getElem hm2
            obtain ⟨b, b1, b2⟩ := hd.get e1
            obtain ⟨c, c1, c2⟩ := rw'.get b1
            refine ⟨ys[m], e1, ?_⟩
            have e2 : ws.toArray[m] = c := by simpa using (List.getElem?_eq_some_iff.mp c1).2
            rw [e2]
            exact (eqU_of c2 (by rw [flat_of b2]; exact fl e1)).trans (eq_of b2 dy (fl e1) hl.1)
          have hj1 : j < ws.toArray.size := by
            have := (List.getElem?_eq_some_iff.mp h1).1
            rw [List.size_toArray, ← rw'.length, ← hd.length]; exact this
          refine call_meets PySem.F.slot_tuple_index ⟨_, ho, rfl⟩ PySem.F.entry_tuple_index (PySem.F.args_tuple_index_2 _ _)
            (TI.tuple_indexAt _ ws.toArray n dd sl u (eqU y) j hj1 ?_ ?_) ⟨ho, fun c hc => mem_eqAt ru (by rw [flat_of dy]; exact hl.1) rw' (by rw [flats_of hd]; exact hl.2) c (by simpa using hc), ?_⟩
          · obtain ⟨c, c1, c2⟩ := at_ hj1
            rw [h1] at c1; cases c1
            rw [c2]; exact h2
          · intro m hm hmj
            obtain ⟨c, c1, c2⟩ := at_ hm
            rw [c2]
            exact h3 m c hmj c1
          · exact ⟨V.int (j : Nat), H, I.tok _, ⟨_, rfl⟩, hq ρ H .refl r _ (.int _)⟩
      · cases hf
    · cases hf
  · cases hf
end
end Zl

/-! text Z7 -/
namespace Zl
open PySem L2 PySem.Spec PyProof.Rows

/-! ## Targets -/
/-- equal but for the slots ws -/
def OutEq (ws : List Nat) (σ σ' : L2.St) : Prop := σ'.length = σ.length ∧ ∀ i, i ∉ ws → σ'[i]? = σ[i]?
theorem OutEq.refl {ws : List Nat} {σ : L2.St} : OutEq ws σ σ := ⟨rfl, fun _ _ => rfl⟩
theorem OutEq.set {ws : List Nat} {σ : L2.St} {i : Nat} {v : Option V} (h : i ∈ ws) : OutEq ws σ (σ.set i v) := ⟨by simp, fun j hj => List.getElem?_set_ne fun e => hj (by rw [← e]; exact h)⟩
theorem OutEq.trans {ws : List Nat} {σ σ1 σ2 : L2.St} (a : OutEq ws σ σ1) (b : OutEq ws σ1 σ2) : OutEq ws σ σ2 := ⟨b.1.trans a.1, fun i hi => (b.2 i hi).trans (a.2 i hi)⟩
theorem OutEq.mono {ws us : List Nat} {σ σ' : L2.St} (a : OutEq ws σ σ') (h : ∀ i ∈ ws, i ∈ us) : OutEq us σ σ' := ⟨a.1, fun i hi => a.2 i fun z => hi (h i z)⟩

abbrev FG := Dv → En → Mem → Option (En × Mem)
abbrev FGs := List Dv → En → Mem → Option (En × Mem)
def tG (K : Frg) (ct : Ct) (ws : List Nat) (f : FG) : TG := fun v σ H Q => ∃ ρ M env d, Rl K ct ρ M H ∧ EnOk K ρ H env σ ∧ DV K ρ H d v ∧ ∃ env' M', f d env M = some (env', M') ∧ Aft K ct ρ H M' fun ρ' H' => ∀ σ', EnOk K ρ' H' env' σ' → OutEq ws σ σ' → Q σ' H'
def tGs (K : Frg) (ct : Ct) (ws : List Nat) (f : FGs) : TGs := fun vs σ H Q => ∃ ρ M env ds, Rl K ct ρ M H ∧ EnOk K ρ H env σ ∧ DVs K ρ H ds vs ∧ ∃ env' M', f ds env M = some (env', M') ∧ Aft K ct ρ H M' fun ρ' H' => ∀ σ', EnOk K ρ' H' env' σ' → OutEq ws σ σ' → Q σ' H'
abbrev SG (X : Cx) (ct : Ct) (ws : List Nat) (e : Expr) (f : FG) : Prop := PG X e (tG X.K ct ws f)
abbrev SGs (X : Cx) (ct : Ct) (ws : List Nat) (es : List Expr) (f : FGs) : Prop := PGs X es (tGs X.K ct ws f)
section
variable {X : Cx} {ct : Ct} {ws : List Nat} {e o i' : Expr} {es : List Expr} {pos : Pos} {f : FG} {g : FGs} {fo fi fa : FE}
theorem PG.imp {t t' : TG} (h : PG X e t) (k : ∀ v σ H Q, t' v σ H Q → t v σ H Q) : PG X e t' := ⟨fun pins s σ H v u Q I r w => h.run pins s σ H v u Q I r (k v σ H Q w)⟩
theorem PGs.imp {t t' : TGs} (h : PGs X es t) (k : ∀ v σ H Q, t' v σ H Q → t v σ H Q) : PGs X es t' := ⟨fun pins s σ H v u Q I r w => h.run pins s σ H v u Q I r (k v σ H Q w)⟩
def gN (i : Nat) : FG := fun d env M => some (env.set i (some d), M)
theorem sg_name {i : Nat} {x : Str} (hN : X.N.Nodup) (hi : X.N[i]? = some x) (hx : Loc X.env.scope x) (hw : i ∈ ws := by simp) (hf : X.fn x = true ∨ X.env.scope.names.lookup x = some .local := by first | exact .inl rfl | exact .inr rfl | assumption) : SG X ct ws (.Name x pos) (gN i) :=
  PG.imp (pg_name hN hi hx hf) fun v σ H Q ⟨ρ, M, env, d, r, he, dv, env', M', hf, hq⟩ => by
    cases hf
    exact hq ρ H .refl r _ (he.set i dv) (.set hw)
def gsNil : FGs := fun ds env M => match ds with
  | [] => some (env, M)
  | _ => none
def gsCons (f : FG) (g : FGs) : FGs := fun ds env M => match ds with
  | d :: r => bnd (f d env M) fun e1 M1 => g r e1 M1
  | [] => none
theorem sgs_nil : SGs X ct ws [] gsNil := PGs.imp pgs_nil fun v σ H Q ⟨ρ, M, env, ds, r, he, dv, env', M', hf, hq⟩ => by
  unfold gsNil at hf
  split at hf
  · cases hf
    exact ⟨dvs_nil dv, hq ρ H .refl r σ he .refl⟩
  · cases hf
theorem sgs_cons (h1 : SG X ct ws e f) (h2 : SGs X ct ws es g) (hs : (assignEach (e :: es) X.env).map (·.2) = assign e X.env :: (assignEach es X.env).map (·.2) := by rfl) : SGs X ct ws (e :: es) (gsCons f g) :=
  PGs.imp (pgs_cons h1 h2 hs) fun vs σ H Q ⟨ρ, M, env, ds, r, he, dv, env', M', hf, hq⟩ => by
    unfold gsCons at hf
    split at hf
    · obtain ⟨e1, M1, g1, hf⟩ := bnd_some hf
      cases dv with
      | cons d1 dr =>
        exact ⟨_, _, rfl, ρ, M, env, _, r, he, d1, e1, M1, g1, fun ρ1 H1 x1 r1 σ1 en1 oe1 => ⟨ρ1, M1, e1, _, r1, en1, dr.mono x1, env', M', hf, fun ρ2 H2 x2 r2 σ2 en2 oe2 => hq ρ2 H2 (x1.trans x2) r2 σ2 en2 (oe1.trans oe2)⟩⟩
    · cases hf
/-- (a, b, ..) = a tuple -/
def gT (n : Nat) (g : FGs) : FG := fun d env M => match d with
  | .tup xs => if xs.length = n then g xs env M else none
  | .pr xs => if xs.length = n then g xs env M else none
  | _ => none
theorem sg_tup {k n : Nat} (hc : X.calm = true) (h : SGs X ct ws es g) (hn : (assignEach es X.env).length = n := by rfl) (hst : (assignEach es X.env).findIdx? (·.1) = none := by rfl) : SG X ct ws (.Tuple es k pos) (gT n g) :=
  PG.imp (pg_tup hc h hn hst) fun v σ H Q ⟨ρ, M, env, d, r, he, dv, env', M', hf, hq⟩ => by
    unfold gT at hf
    split at hf
    · split at hf
      · rename_i hl
        cases dv with
        | tup hs hd => exact ⟨_, _, rfl, hs.sq, hd.length ▸ hl, ρ, M, env, _, r, he, hd, env', M', hf, hq⟩
      · cases hf
    · split at hf
      · rename_i hl
        cases dv with
        | pr hs hd => exact ⟨_, _, rfl, hs, hd.length ▸ hl, ρ, M, env, _, r, he, hd, env', M', hf, hq⟩
      · cases hf
    · cases hf
/-- (a, b, ..) = a list -/
def gL (n : Nat) (g : FGs) : FG := fun d env M => match d with
  | .loc m => match M[m]? with
    | some (.lst xs) => if xs.length = n then g xs env M else none
    | _ => none
  | _ => none
theorem sg_unl {k n : Nat} (hc : X.calm = true) (h : SGs X ct ws es g) (hn : (assignEach es X.env).length = n := by rfl) (hst : (assignEach es X.env).findIdx? (·.1) = none := by rfl) : SG X ct ws (.Tuple es k pos) (gL n g) :=
  PG.imp (pg_unl hc h hn hst) fun v σ H Q ⟨ρ, M, env, d, r, he, dv, env', M', hf, hq⟩ => by
    unfold gL at hf
    split at hf
    · split at hf
      · rename_i hm
        split at hf
        · rename_i hl
          obtain ⟨a, vs, rfl, a1, a2, a3⟩ := r.lst hm dv
          exact ⟨_, _, rfl, SqL.of a2, a3.length ▸ hl, ρ, M, env, _, r, he, a3, env', M', hf, hq⟩
        · cases hf
      · cases hf
    · cases hf
/-- o[i] = v of a list -/
def setD (o i v : Dv) (M : Mem) : Option Mem :=
  match o, i with
  | .loc n, .int k => match M[n]? with
    | some (.lst xs) => match ixN xs.length k with
      | some j => some (M.set n (.lst (xs.set j v)))
      | none => none
    | _ => none
  | _, _ => none
def gS (fo fi : FE) : FG := fun d env M => bnd (fo env M) fun o M1 => bnd (fi env M1) fun i M2 => match setD o i d M2 with
  | some M3 => some (env, M3)
  | none => none
theorem sg_sub (ho : SE X ct o fo) (hi : SE X ct i' fi)
    (ha : ∀ v, assign (.Subscript o i' pos) X.env v = (do
      let ov ← holding [v] (eval o X.env)
      let iv ← holding [v, ov] (eval i' X.env)
      standAt pos
      holding [v, ov, iv] (setItem ov iv v)
      release [v, ov, iv] []) := by intro _; rfl) : SG X ct ws (.Subscript o i' pos) (gS fo fi) :=
  PG.imp (pg_sub ho hi set_list ha) fun v σ H Q ⟨ρ, M, env, d, r, he, dv, env', M', hf, hq⟩ => by
    obtain ⟨x, M1, h1, hf⟩ := bnd_some hf
    obtain ⟨y, M2, h2, hf⟩ := bnd_some hf
    refine ⟨ρ, M, env, r, he, x, M1, h1, fun ρ1 H1 e1 r1 w dw => ⟨ρ1, M1, env, r1, he.mono e1, y, M2, h2, fun ρ2 H2 e2 r2 u du => ?_⟩⟩
    split at hf
    · rename_i M3 hs
      cases hf
      unfold setD at hs
      split at hs
      · split at hs
        · rename_i hm
          split at hs
          · rename_i j hj
            cases hs
            obtain ⟨a, vs, rfl, a1, a2, a3⟩ := r2.lst hm (dw.mono e2)
            cases du
            obtain ⟨r3, e3⟩ := r2.putL a1 a2 (a3.set ((dv.mono e1).mono e2) j)
            exact ⟨a, vs, _, j, rfl, rfl, a2, by rw [← a3.length]; exact hj, hq ρ2 _ ((e1.trans e2).trans e3) r3 σ (((he.mono e1).mono e2).mono e3) .refl⟩
          · cases hs
        · cases hs
      · cases hs
    · cases hf
end

/-! ## Statements -/
inductive Fl where
  | nx (env : En)
  | rt (d : Dv)
  | bk (env : En)
  | ct (env : En)
abbrev FS := En → Mem → Option (Fl × Mem)
def endF (K : Frg) (D : Ends) (fl : Fl) (ρ : List Addr) (H : Hp) : Prop :=
  match fl with
  | .nx env => ∀ σ, EnOk K ρ H env σ → D.nx σ H
  | .rt d => ∀ v, DV K ρ H d v → D.rt v H
  | .bk env => ∀ σ, EnOk K ρ H env σ → D.bk σ H
  | .ct env => ∀ σ, EnOk K ρ H env σ → D.ct σ H
def tS (K : Frg) (ct : Ct) (f : FS) : TS := fun D σ H => ∃ ρ M env, Rl K ct ρ M H ∧ EnOk K ρ H env σ ∧ ∃ fl M', f env M = some (fl, M') ∧ Aft K ct ρ H M' fun ρ' H' => endF K D fl ρ' H'
abbrev SS (X : Cx) (ct : Ct) (st : Stmt) (f : FS) : Prop := PS X st (tS X.K ct f)
abbrev SSs (X : Cx) (ct : Ct) (st : List Stmt) (f : FS) : Prop := PSs X st (tS X.K ct f)
section
variable {X : Cx} {ct : Ct} {st : Stmt} {rest body orelse : List Stmt} {e c o v' tg : Expr} {pos tpos : Pos} {f g : FS} {fe fo fv : FE} {ft : FT} {ws : List Nat}
theorem PS.imp {t t' : TS} (h : PS X st t) (k : ∀ D σ H, t' D σ H → t D σ H) : PS X st t' := ⟨fun pins s σ H D I w => h.run pins s σ H D I (k D σ H w)⟩
theorem PSs.imp {t t' : TS} (h : PSs X rest t) (k : ∀ D σ H, t' D σ H → t D σ H) : PSs X rest t' := ⟨fun pins s σ H D I w => h.run pins s σ H D I (k D σ H w)⟩
def fEnd : FS := fun env M => some (.nx env, M)
def fSeq (f g : FS) : FS := fun env M => bnd (f env M) fun fl M1 => match fl with
  | .nx e1 => g e1 M1
  | .rt d => some (.rt d, M1)
  | .bk e1 => some (.bk e1, M1)
  | .ct e1 => some (.ct e1, M1)
theorem ss_nil : SSs X ct [] fEnd := PSs.imp pss_nil fun D σ H ⟨ρ, M, env, r, he, fl, M', hf, hq⟩ => by
  cases hf
  exact hq ρ H .refl r σ he
theorem ss_cons (h1 : SS X ct st f) (h2 : SSs X ct rest g) : SSs X ct (st :: rest) (fSeq f g) :=
  PSs.imp (pss_cons h1 h2) fun D σ H ⟨ρ, M, env, r, he, fl, M', hf, hq⟩ => by
    obtain ⟨f1, M1, h1, hf⟩ := bnd_some hf
    refine ⟨ρ, M, env, r, he, f1, M1, h1, fun ρ1 H1 e1 r1 => ?_⟩
    cases f1 with
    | nx e2 => exact fun σ1 en1 => ⟨ρ1, M1, e2, r1, en1, fl, M', hf, hq.later e1⟩
    | rt d => cases hf; exact hq ρ1 H1 e1 r1
    | bk e2 => cases hf; exact hq ρ1 H1 e1 r1
    | ct e2 => cases hf; exact hq ρ1 H1 e1 r1
theorem ss_one (h1 : SS X ct st f) : SSs X ct [st] f := pss_one h1
theorem ss_pass : SS X ct (.Pass pos) fEnd := PS.imp ps_pass fun D σ H ⟨ρ, M, env, r, he, fl, M', hf, hq⟩ => by
  cases hf
  exact hq ρ H .refl r σ he
def fBrk : FS := fun env M => some (.bk env, M)
def fCnt : FS := fun env M => some (.ct env, M)
theorem ss_break : SS X ct (.Break pos) fBrk := PS.imp ps_break fun D σ H ⟨ρ, M, env, r, he, fl, M', hf, hq⟩ => by
  cases hf
  exact hq ρ H .refl r σ he
theorem ss_continue : SS X ct (.Continue pos) fCnt := PS.imp ps_continue fun D σ H ⟨ρ, M, env, r, he, fl, M', hf, hq⟩ => by
  cases hf
  exact hq ρ H .refl r σ he
/-- code that no run served here comes to -/
def fNo : FS := fun _ _ => none
theorem ss_never : SS X ct st fNo := PS.imp ps_never fun D σ H ⟨_, _, _, _, _, _, _, hf, _⟩ => by cases hf
theorem sss_never : SSs X ct rest fNo := PSs.imp pss_never fun D σ H ⟨_, _, _, _, _, _, _, hf, _⟩ => by cases hf
def fDrop (f : FE) : FS := fun env M => bnd (f env M) fun _ M1 => some (.nx env, M1)
theorem ss_expr (h : SE X ct e fe) (hs : swapsWith e none pos.line X.env = pure false := by rfl) : SS X ct (.Expr e pos) (fDrop fe) :=
  PS.imp (ps_expr h hs) fun D σ H ⟨ρ, M, env, r, he, fl, M', hf, hq⟩ => by
    obtain ⟨x, M1, h1, hf⟩ := bnd_some hf
    cases hf
    exact ⟨ρ, M, env, r, he, x, _, h1, fun ρ1 H1 e1 r1 v dv => hq ρ1 H1 e1 r1 σ (he.mono e1)⟩
def fRet (f : FE) : FS := fun env M => bnd (f env M) fun d M1 => some (.rt d, M1)
theorem ss_ret (h : SE X ct e fe) : SS X ct (.Return (some e) pos) (fRet fe) :=
  PS.imp (ps_ret h) fun D σ H ⟨ρ, M, env, r, he, fl, M', hf, hq⟩ => by
    obtain ⟨x, M1, h1, hf⟩ := bnd_some hf
    cases hf
    exact ⟨ρ, M, env, r, he, x, _, h1, fun ρ1 H1 e1 r1 v dv => hq ρ1 H1 e1 r1 v dv⟩
def fRetN : FS := fun _ M => some (.rt .non, M)
theorem ss_retN : SS X ct (.Return none pos) fRetN :=
  PS.imp ps_retN fun D σ H ⟨ρ, M, env, r, he, fl, M', hf, hq⟩ => by
    cases hf
    exact hq ρ H .refl r _ .non
def fIfS (c : FT) (f g : FS) : FS := fun env M => bnd (c env M) fun b M1 => if b then f env M1 else g env M1
theorem ss_if (hc : ST X ct c ft) (h1 : SSs X ct body f) (h2 : SSs X ct orelse g) : SS X ct (.If c body orelse pos) (fIfS ft f g) :=
  PS.imp (ps_if hc h1 h2) fun D σ H ⟨ρ, M, env, r, he, fl, M', hf, hq⟩ => by
    obtain ⟨b, M1, h1, hf⟩ := bnd_some hf
    refine ⟨ρ, M, env, r, he, b, M1, h1, fun ρ1 H1 e1 r1 => ?_⟩
    cases b with
    | true =>
      rw [if_pos rfl]
      exact ⟨ρ1, M1, env, r1, he.mono e1, fl, M', hf, hq.later e1⟩
    | false =>
      rw [if_neg (by decide)]
      exact ⟨ρ1, M1, env, r1, he.mono e1, fl, M', hf, hq.later e1⟩
/-- name = e -/
def fSet (i : Nat) (f : FE) : FS := fun env M => bnd (f env M) fun d M1 => some (.nx (env.set i (some d)), M1)
theorem ss_set {i : Nat} {x : Str} {pos' : Pos} (hN : X.N.Nodup) (hi : X.N[i]? = some x) (hx : Loc X.env.scope x) (h : SE X ct e fe) (hs : swapsWith e (some (.Name x pos')) pos.line X.env = pure false := by rfl) (hf : X.fn x = true ∨ X.env.scope.names.lookup x = some .local := by first | exact .inl rfl | exact .inr rfl | assumption) :
    SS X ct (.Assign [.Name x pos'] e pos) (fSet i fe) :=
  PS.imp (ps_set hN hi hx h hs hf) fun D σ H ⟨ρ, M, env, r, he, fl, M', hf, hq⟩ => by
    obtain ⟨d, M1, h1, hf⟩ := bnd_some hf
    cases hf
    exact ⟨ρ, M, env, r, he, d, _, h1, fun ρ1 H1 e1 r1 v dv => hq ρ1 H1 e1 r1 _ ((he.mono e1).set i dv)⟩
/-- target = e -/
def fAsg (f : FE) (g : FG) : FS := fun env M => bnd (f env M) fun d M1 => bnd (g d env M1) fun e1 M2 => some (.nx e1, M2)
theorem ss_asg {gg : FG} (h : SE X ct e fe) (hg : SG X ct ws tg gg) (hs : swapsWithSole [tg] e pos.line X.env = pure false := by rfl) (hw : swappedStores [tg] e X.env = pure none := by rfl)
    (h1 : (assignEach [tg] X.env).map (·.2) = [assign tg X.env] := by rfl) : SS X ct (.Assign [tg] e pos) (fAsg fe gg) :=
  PS.imp (ps_asg h hg hs hw h1) fun D σ H ⟨ρ, M, env, r, he, fl, M', hf, hq⟩ => by
    obtain ⟨d, M1, h1, hf⟩ := bnd_some hf
    obtain ⟨e2, M2, h2, hf⟩ := bnd_some hf
    cases hf
    exact ⟨ρ, M, env, r, he, d, M1, h1, fun ρ1 H1 e1 r1 v dv => ⟨ρ1, M1, env, d, r1, he.mono e1, dv, e2, _, h2, fun ρ2 H2 x2 r2 σ2 en2 _ => hq ρ2 H2 (e1.trans x2) r2 σ2 en2⟩⟩
/-- a, b = x, y: plain local names -/
def fPar (is : List Nat) (f : FA) : FS := fun env M => bnd (f env M) fun ds M1 => if ds.length = is.length then some (.nx ((is.zip ds).foldl (fun e p => e.set p.1 (some p.2)) env), M1) else none
theorem ss_par {i j : Nat} {x y : Str} {a b : Expr} {fr : FA} {px py pt : Pos} {kt k2 pt2} (hc : X.calm = true) (hN : X.N.Nodup) (hi : X.N[i]? = some x) (hj : X.N[j]? = some y) (hij : i ≠ j)
    (hx : X.env.scope.names.lookup x = some .local) (hy : X.env.scope.names.lookup y = some .local) (ha : SA X ct [a, b] fr)
    (hw : swappedStores [.Tuple [.Name x px, .Name y py] kt pt] (.Tuple [a, b] k2 pt2) X.env = pure (some [x, y]))
    (hs : swapsWithSole [.Tuple [.Name x px, .Name y py] kt pt] (.Tuple [a, b] k2 pt2) pos.line X.env = pure false := by rfl) :
    SS X ct (.Assign [.Tuple [.Name x px, .Name y py] kt pt] (.Tuple [a, b] k2 pt2) pos) (fPar [i, j] fr) :=
  PS.imp (ps_par hc hN hi hj hij hx hy ha hw hs) fun D σ H ⟨ρ, M, env, r, he, fl, M', hf, hq⟩ => by
    obtain ⟨ds, M1, h1, hf⟩ := bnd_some hf
    split at hf
    · rename_i hl
      cases hf
      refine ⟨ρ, M, env, r, he, ds, _, h1, fun ρ1 H1 e1 r1 vs dvs => ?_⟩
      match ds, hl, dvs with
      | [d1, d2], _, dvs =>
        obtain ⟨u, w, rfl, q1, q2⟩ := dvs_two dvs
        exact ⟨u, w, rfl, hq ρ1 H1 e1 r1 _ (((he.mono e1).set i q1).set j q2)⟩
    · cases hf
theorem ss_par3 {i j l : Nat} {x y z : Str} {a b c : Expr} {fr : FA} {px py pz pt : Pos} {kt k2 pt2} (hc : X.calm = true) (hN : X.N.Nodup) (hi : X.N[i]? = some x) (hj : X.N[j]? = some y) (hl : X.N[l]? = some z) (hij : i ≠ j) (hil : i ≠ l) (hjl : j ≠ l)
    (hx : X.env.scope.names.lookup x = some .local) (hy : X.env.scope.names.lookup y = some .local) (hz : X.env.scope.names.lookup z = some .local) (ha : SA X ct [a, b, c] fr)
    (hw : swappedStores [.Tuple [.Name x px, .Name y py, .Name z pz] kt pt] (.Tuple [a, b, c] k2 pt2) X.env = pure (some [x, y, z]))
    (hs : swapsWithSole [.Tuple [.Name x px, .Name y py, .Name z pz] kt pt] (.Tuple [a, b, c] k2 pt2) pos.line X.env = pure false := by rfl) :
    SS X ct (.Assign [.Tuple [.Name x px, .Name y py, .Name z pz] kt pt] (.Tuple [a, b, c] k2 pt2) pos) (fPar [i, j, l] fr) :=
  PS.imp (ps_par3 hc hN hi hj hl hij hil hjl hx hy hz ha hw hs) fun D σ H ⟨ρ, M, env, r, he, fl, M', hf, hq⟩ => by
    obtain ⟨ds, M1, h1, hf⟩ := bnd_some hf
    split at hf
    · rename_i hl
      cases hf
      refine ⟨ρ, M, env, r, he, ds, _, h1, fun ρ1 H1 e1 r1 vs dvs => ?_⟩
      match ds, hl, dvs with
      | [d1, d2, d3], _, dvs =>
        cases dvs with
        | cons q1 qs =>
          obtain ⟨u, w, rfl, q2, q3⟩ := dvs_two qs
          exact ⟨_, u, w, rfl, hq ρ1 H1 e1 r1 _ ((((he.mono e1).set i q1).set j q2).set l q3)⟩
    · cases hf
/-- name op= e of ints -/
def fAug (i : Nat) (h : Int → Int → Int) (f : FE) : FS := fun env M => match env[i]? with
  | some (some (.int a)) => bnd (f env M) fun d M1 => match d with
    | .int b => some (.nx (env.set i (some (.int (h a b)))), M1)
    | _ => none
  | _ => none
theorem ss_aug {i : Nat} {x : Str} {op : Operator} {h : Int → Int → Int} {pos' : Pos} (hN : X.N.Nodup) (hi : X.N[i]? = some x) (hx : Loc X.env.scope x) (he : SE X ct e fe) (ho : PIp X op (ipI h)) (hf : X.fn x = true ∨ X.env.scope.names.lookup x = some .local := by first | exact .inl rfl | exact .inr rfl | assumption) :
    SS X ct (.AugAssign (.Name x pos') op e pos) (fAug i h fe) :=
  PS.imp (ps_aug hN hi hx he ho hf) fun D σ H ⟨ρ, M, env, r, hen, fl, M', hf, hq⟩ => by
    unfold fAug at hf
    split at hf
    · rename_i a ha
      obtain ⟨d, M1, h1, hf⟩ := bnd_some hf
      split at hf
      · rename_i b
        cases hf
        obtain ⟨v, v1, v2⟩ := hen.2 i _ ha
        cases v2
        refine ⟨_, v1, ρ, M, env, r, hen, _, _, h1, fun ρ1 H1 e1 r1 w dw => ?_⟩
        cases dw
        exact ⟨_, _, rfl, rfl, hq ρ1 H1 e1 r1 _ ((hen.mono e1).set i (.int _))⟩
      · cases hf
    · cases hf

/-! ## while -/
def whileF (c : FT) (body : FS) : Nat → FS
  | 0 => fun _ _ => none
  | k + 1 => fun env M => bnd (c env M) fun b M1 => if b then bnd (body env M1) fun fl M2 => match fl with
      | .nx e1 => whileF c body k e1 M2
      | .ct e1 => whileF c body k e1 M2
      | .bk e1 => some (.nx e1, M2)
      | .rt d => some (.rt d, M2)
    else some (.nx env, M1)
theorem ss_while (k : Nat) (hp : PassesOwn (model X.prog X.w) X.A X.env X.xe) (hc : ST X ct c ft) (hb : SSs X ct body f) : SS X ct (.While c body [] pos) (whileF ft f k) := by
  refine PS.imp (ps_while hp hc hb) fun D σ H w => ?_
  refine ⟨fun m σ H => ∃ ρ M env, Rl X.K ct ρ M H ∧ EnOk X.K ρ H env σ ∧ ∃ fl M', whileF ft f m env M = some (fl, M') ∧ Aft X.K ct ρ H M' fun ρ' H' => endF X.K D fl ρ' H', ⟨k, w⟩, ?_⟩
  intro m σ H w
  obtain ⟨ρ, M, env, r, he, fl, M', hf, hq⟩ := w
  cases m with
  | zero => cases hf
  | succ m =>
    obtain ⟨b, M1, h1, hf⟩ := bnd_some hf
    refine ⟨ρ, M, env, r, he, b, M1, h1, fun ρ1 H1 e1 r1 => ?_⟩
    cases b with
    | false =>
      rw [if_neg (by decide)]
      cases hf
      exact hq ρ1 H1 e1 r1 σ (he.mono e1)
    | true =>
      rw [if_pos rfl]
      rw [if_pos rfl] at hf
      obtain ⟨f1, M2, h2, hf⟩ := bnd_some hf
      refine ⟨fun σ' H' => ∃ ρ M env, Rl X.K ct ρ M H' ∧ EnOk X.K ρ H' env σ' ∧ ∃ fl M', whileF ft f m env M = some (fl, M') ∧ Aft X.K ct ρ H' M' fun ρ' H' => endF X.K D fl ρ' H', fun σ' H' n => ⟨m, Nat.lt_succ_self m, n⟩, ?_⟩
      refine ⟨ρ1, M1, env, r1, he.mono e1, f1, M2, h2, fun ρ2 H2 e2 r2 => ?_⟩
      cases f1 with
      | nx e3 => exact fun σ2 en2 => ⟨ρ2, M2, e3, r2, en2, fl, M', hf, hq.later (e1.trans e2)⟩
      | ct e3 => exact fun σ2 en2 => ⟨ρ2, M2, e3, r2, en2, fl, M', hf, hq.later (e1.trans e2)⟩
      | bk e3 => cases hf; exact fun σ2 en2 => hq ρ2 H2 (e1.trans e2) r2 σ2 en2
      | rt d => cases hf; exact hq ρ2 H2 (e1.trans e2) r2
end
end Zl

/-! text Z8 -/
namespace Zl
open PySem L2 PySem.Spec PyProof.Rows

/-! ## What is walked -/
/-- at turn i: the item, or the end -/
abbrev Stp := Nat → Mem → Option (Option Dv)
structure Src where
  many : Nat
  stp : Stp
def Feeds (K : Frg) (ct : Ct) (ρ0 : List Addr) (H0 : Hp) (J : It) (it : Stp) : Prop := ∀ i ρ M H, Ext K ρ0 H0 ρ H → Rl K ct ρ M H →
  match it i M with
  | some (some d) => J.go i H ∧ ∀ x H', J.yld i H x H' → Ext K ρ H ρ H' ∧ Rl K ct ρ M H' ∧ DV K ρ H' d x
  | some none => J.stop i H
  | none => True
abbrev FI := En → Mem → Option (Src × Mem)
def tI (K : Frg) (ct : Ct) (f : FI) : TI := fun σ H R => ∃ ρ M env, Rl K ct ρ M H ∧ EnOk K ρ H env σ ∧ ∃ src M', f env M = some (src, M') ∧ Aft K ct ρ H M' fun ρ' H' => ∀ J, Feeds K ct ρ' H' J src.stp → R J H'
abbrev SI (X : Cx) (ct : Ct) (tg iter : Expr) (f : FI) : Prop := PI X tg iter (tI X.K ct f)
section
variable {X : Cx} {ct : Ct} {tg iter e a b : Expr} {pos p : Pos} {fe fa fb : FE} {fi : FI} {fr : FA}
theorem PI.imp {t t' : TI} (h : PI X tg iter t) (k : ∀ σ H R, t' σ H R → t σ H R) : PI X tg iter t' := ⟨fun pins s σ H R I w => h.run pins s σ H R I (k σ H R w)⟩
theorem PI.or {t t' : TI} (h : PI X tg iter t) (h' : PI X tg iter t') : PI X tg iter (fun σ H R => t σ H R ∨ t' σ H R) :=
  ⟨fun pins s σ H R I w => w.elim (h.run pins s σ H R I) (h'.run pins s σ H R I)⟩
/-- a tuple, a list, a text -/
def srcOf (M : Mem) : Dv → Option Src
  | .tup xs => some ⟨xs.length, fun i _ => some xs[i]?⟩
  | .rol xs => some ⟨xs.length, fun i _ => some xs[i]?⟩
  | .loc n => match M[n]? with
    | some (.lst xs) => some ⟨xs.length, fun i M => match M[n]? with
      | some (.lst xs) => some xs[i]?
      | _ => none⟩
    | _ => none
  | .str x => some ⟨x.cps.size, fun i _ => some (x.cps[i]?.map fun c => .str ⟨#[c]⟩)⟩
  | _ => none
def fSrc (f : FE) : FI := fun env M => bnd (f env M) fun d M1 => match srcOf M1 d with
  | some s => some (s, M1)
  | none => none
theorem feeds_tup {K : Frg} {ρ0 : List Addr} {H0 : Hp} {a : Addr} {xs : List Dv} {vs : List V} (hs : TupD K H0 a vs) (hd : DVs K ρ0 H0 xs vs) : Feeds K ct ρ0 H0 (Itt K a) (fun i _ => some xs[i]?) := by
  intro i ρ M H x r
  dsimp only
  cases q : xs[i]? with
  | none => exact ⟨vs, (hs.mono x).sq, by rw [← hd.length]; exact List.getElem?_eq_none_iff.mp q⟩
  | some d =>
    obtain ⟨v, h1, h2⟩ := hd.get q
    refine ⟨⟨vs, v, (hs.mono x).sq, h1⟩, fun y H' hy => ?_⟩
    obtain ⟨e, hy⟩ := hy
    subst e
    have := hy vs (hs.mono x).sq
    rw [h1] at this; cases this
    exact ⟨.refl, r, h2.mono x⟩
theorem feeds_rol {K : Frg} {ρ0 : List Addr} {H0 : Hp} {a : Addr} {xs : List Dv} {vs : List V} (hs : SqF K H0 a vs) (hd : DVs K ρ0 H0 xs vs) : Feeds K ct ρ0 H0 (Itl K a) (fun i _ => some xs[i]?) := by
  intro i ρ M H x r
  dsimp only
  cases q : xs[i]? with
  | none => exact ⟨vs, (hs.mono x).sq, by rw [← hd.length]; exact List.getElem?_eq_none_iff.mp q⟩
  | some d =>
    obtain ⟨v, h1, h2⟩ := hd.get q
    refine ⟨⟨vs, v, (hs.mono x).sq, h1⟩, fun y H' hy => ?_⟩
    obtain ⟨e, hy⟩ := hy
    subst e
    have := hy vs (hs.mono x).sq
    rw [h1] at this; cases this
    exact ⟨.refl, r, h2.mono x⟩
theorem feeds_lst {K : Frg} {ρ0 : List Addr} {H0 : Hp} {a : Addr} {n : Nat} (hn : ρ0[n]? = some a) : Feeds K ct ρ0 H0 (Itl K a) (fun i M => match M[n]? with
      | some (.lst xs) => some xs[i]?
      | _ => none) := by
  intro i ρ M H x r
  dsimp only
  split
  · rename_i d hd
    split at hd
    · rename_i xs hm
      obtain ⟨b, vs, eb, b1, b2, b3⟩ := r.lst hm (.loc (x.pre n a hn))
      cases eb
      have q : xs[i]? = some d := by simpa using hd
      obtain ⟨v, h1, h2⟩ := b3.get q
      refine ⟨⟨vs, v, SqL.of b2, h1⟩, fun y H' hy => ?_⟩
      obtain ⟨e, hy⟩ := hy
      subst e
      have := hy vs (SqL.of b2)
      rw [h1] at this; cases this
      exact ⟨.refl, r, h2⟩
    · cases hd
  · rename_i hd
    split at hd
    · rename_i xs hm
      obtain ⟨b, vs, eb, b1, b2, b3⟩ := r.lst hm (.loc (x.pre n a hn))
      cases eb
      have q : xs[i]? = none := by simpa using hd
      exact ⟨vs, SqL.of b2, by rw [← b3.length]; exact List.getElem?_eq_none_iff.mp q⟩
    · cases hd
  · trivial
theorem feeds_str {K : Frg} {ρ0 : List Addr} {H0 : Hp} {x : Str} : Feeds K ct ρ0 H0 (Its x) (fun i _ => some (x.cps[i]?.map fun c => .str ⟨#[c]⟩)) := by
  intro i ρ M H _ r
  dsimp only
  cases q : x.cps[i]? with
  | none => exact Array.getElem?_eq_none_iff.mp q
  | some c =>
    refine ⟨(Array.getElem?_eq_some_iff.mp q).1, fun y H' hy => ?_⟩
    obtain ⟨e, c', hc', ey⟩ := hy
    subst e; subst ey
    rw [q] at hc'; cases hc'
    exact ⟨.refl, r, .str _⟩
theorem si_seq (h : SE X ct e fe) : SI X ct tg e (fSrc fe) := by
  refine PI.imp (PI.or (PI.or (pi_list h) (pi_tup h)) (pi_str h)) fun σ H R ⟨ρ, M, env, r, he, src, M', hf, hq⟩ => ?_
  obtain ⟨d, M1, h1, hf⟩ := bnd_some hf
  split at hf
  · rename_i s0 hs
    cases hf
    unfold srcOf at hs
    split at hs
    · cases hs
      exact .inl (.inr ⟨ρ, M, env, r, he, _, _, h1, fun ρ1 H1 e1 r1 v dv => by
        cases dv with
        | tup hs hd => exact ⟨_, rfl, ⟨_, hs.sq⟩, hq ρ1 H1 e1 r1 _ (feeds_tup hs hd)⟩⟩)
    · cases hs
      exact .inl (.inl ⟨ρ, M, env, r, he, _, _, h1, fun ρ1 H1 e1 r1 v dv => by
        cases dv with
        | rol hs hd => exact ⟨_, rfl, ⟨_, hs.sq⟩, hq ρ1 H1 e1 r1 _ (feeds_rol hs hd)⟩⟩)
    · split at hs
      · rename_i hm
        cases hs
        exact .inl (.inl ⟨ρ, M, env, r, he, _, _, h1, fun ρ1 H1 e1 r1 v dv => by
          obtain ⟨a, vs, rfl, a1, a2, a3⟩ := r1.lst hm dv
          exact ⟨_, rfl, ⟨_, SqL.of a2⟩, hq ρ1 H1 e1 r1 _ (feeds_lst a1)⟩⟩)
      · cases hs
    · cases hs
      exact .inr ⟨ρ, M, env, r, he, _, _, h1, fun ρ1 H1 e1 r1 v dv => by
        cases dv
        exact ⟨_, rfl, hq ρ1 H1 e1 r1 _ feeds_str⟩⟩
    · cases hs
  · cases hf
/-- range(n), range(a, b) -/
def srcR (lo : Int) (n : Nat) : Src := ⟨n, fun i _ => if i < n then some (some (.int (lo + i))) else some none⟩
theorem feeds_rng {K : Frg} {ρ0 : List Addr} {H0 : Hp} {lo : Int} {n : Nat} : Feeds K ct ρ0 H0 (Itr lo n) (srcR lo n).stp := by
  intro i ρ M H _ r
  show (match (if i < n then some (some (Dv.int (lo + i))) else some none) with | some (some d) => _ | some none => _ | none => _)
  by_cases hi : i < n
  · rw [if_pos hi]
    refine ⟨hi, fun y H' hy => ?_⟩
    obtain ⟨e, ey⟩ := hy
    subst e; subst ey
    exact ⟨.refl, r, .int _⟩
  · rw [if_neg hi]
    exact Nat.le_of_not_lt hi
def fRng1 (f : FE) : FI := fun env M => bnd (f env M) fun d M1 => match d with
  | .int j => if -(2 ^ 62) ≤ j ∧ j < 2 ^ 62 then some (srcR 0 j.toNat, M1) else none
  | _ => none
def fRng2 (f g : FE) : FI := fun env M => bnd (f env M) fun d M1 => bnd (g env M1) fun d2 M2 => match d, d2 with
  | .int i, .int j => if -(2 ^ 62) ≤ i ∧ i < 2 ^ 62 ∧ -(2 ^ 62) ≤ j ∧ j < 2 ^ 62 then some (srcR i (j - i).toNat, M2) else none
  | _, _ => none
theorem si_range1 (hg : Gl X "range") (hm : X.mg "range" = none) (ha : SE X ct a fa) (hs : starEach [a] X.env = [(false, eval a X.env)] := by rfl) : SI X ct tg (.Call (.Name "range" p) [a] [] pos) (fRng1 fa) :=
  PI.imp (pi_range1 hg hm (sa_cons ha sa_nil hs) hs) fun σ H R ⟨ρ, M, env, r, he, src, M', hf, hq⟩ => by
    obtain ⟨d, M1, h1, hf⟩ := bnd_some hf
    refine ⟨ρ, M, env, r, he, [d], M1, by show bnd (fa env M) _ = _; rw [h1]; rfl, fun ρ1 H1 e1 r1 vs dvs => ?_⟩
    split at hf
    · split at hf
      · rename_i hb
        cases hf
        obtain ⟨v, rfl, d1⟩ := dvs_one dvs
        cases d1
        exact ⟨_, rfl, hb.1, hb.2, hq ρ1 H1 e1 r1 _ feeds_rng⟩
      · cases hf
    · cases hf
theorem si_range2 (hg : Gl X "range") (hm : X.mg "range" = none) (ha : SE X ct a fa) (hb : SE X ct b fb) (hs : starEach [a, b] X.env = [(false, eval a X.env), (false, eval b X.env)] := by rfl) (hs2 : starEach [b] X.env = [(false, eval b X.env)] := by rfl) : SI X ct tg (.Call (.Name "range" p) [a, b] [] pos) (fRng2 fa fb) :=
  PI.imp (pi_range2 hg hm (sa_cons ha (sa_cons hb sa_nil hs2) (by rw [hs, hs2])) hs hs2) fun σ H R ⟨ρ, M, env, r, he, src, M', hf, hq⟩ => by
    obtain ⟨d, M1, h1, hf⟩ := bnd_some hf
    obtain ⟨d2, M2, h2, hf⟩ := bnd_some hf
    refine ⟨ρ, M, env, r, he, [d, d2], M2, by show bnd (fa env M) _ = _; rw [h1]; show bnd (bnd (fb env M1) _) _ = _; rw [h2]; rfl, fun ρ1 H1 e1 r1 vs dvs => ?_⟩
    split at hf
    · split at hf
      · rename_i hb
        cases hf
        obtain ⟨v, u, rfl, d1, d2⟩ := dvs_two dvs
        cases d1; cases d2
        exact ⟨_, _, rfl, hb, hq ρ1 H1 e1 r1 _ feeds_rng⟩
      · cases hf
    · cases hf

/-! ## for -/
variable {g : FG} {f : FS} {body : List Stmt} {ws : List Nat}
def loopF (it : Stp) (g : FG) (f : FS) : Nat → Nat → FS
  | 0, i => fun env M => match it i M with
    | some none => some (.nx env, M)
    | _ => none
  | k + 1, i => fun env M => match it i M with
    | some none => some (.nx env, M)
    | some (some d) => bnd (g d env M) fun e1 M1 => bnd (f e1 M1) fun fl M2 => match fl with
      | .nx e2 => loopF it g f k (i + 1) e2 M2
      | .ct e2 => loopF it g f k (i + 1) e2 M2
      | .bk e2 => some (.nx e2, M2)
      | .rt d => some (.rt d, M2)
    | none => none
def fFor (fi : FI) (g : FG) (f : FS) : FS := fun env M => bnd (fi env M) fun src M1 => loopF src.stp g f src.many 0 env M1
theorem ss_for (hp : PassesOwn (model X.prog X.w) X.A X.env X.xe) (hc : X.calm = true) (hi : SI X ct tg iter fi) (hg : SG X ct ws tg g) (hb : SSs X ct body f)
    (hs : ∀ x, foldedSetIterable iter X.env x = pure x := by intro _; rfl) : SS X ct (.For tg iter body [] pos) (fFor fi g f) := by
  refine PS.imp (ps_for hp hc hi hg hb hs) fun D σ H ⟨ρ, M, env, r, he, fl, M', hf, hq⟩ => ?_
  obtain ⟨src, M1, h1, hf⟩ := bnd_some hf
  refine ⟨ρ, M, env, r, he, src, M1, h1, fun ρ0 H0 e0 r0 J hJ => ?_⟩
  refine ⟨fun i m σ H => ∃ ρ M env, Ext X.K ρ0 H0 ρ H ∧ Rl X.K ct ρ M H ∧ EnOk X.K ρ H env σ ∧ ∃ fl M', loopF src.stp g f m i env M = some (fl, M') ∧ Aft X.K ct ρ H M' fun ρ' H' => endF X.K D fl ρ' H',
    ⟨src.many, ρ0, M1, env, .refl, r0, he.mono e0, fl, M', hf, hq.later e0⟩, ?_⟩
  rintro i m σ H ⟨ρ, M, env, x0, r, he, fl, M', hf, hq⟩
  have hj := hJ i ρ M H x0 r
  cases q : src.stp i M with
  | none =>
    cases m with
    | zero => (simp only [loopF, q] at hf; try cases hf)
    | succ m => (simp only [loopF, q] at hf; try cases hf)
  | some o =>
    rw [q] at hj
    cases o with
    | none =>
      have e : some (Fl.nx env, M) = some (fl, M') := by
        cases m with
        | zero => simpa only [loopF, q] using hf
        | succ m => simpa only [loopF, q] using hf
      cases e
      exact .inl ⟨hj, hq ρ H .refl r σ he⟩
    | some d =>
      cases m with
      | zero => (simp only [loopF, q] at hf; try cases hf)
      | succ m =>
        simp only [loopF, q] at hf
        obtain ⟨e1, N1, g1, hf⟩ := bnd_some hf
        obtain ⟨f1, N2, g2, hf⟩ := bnd_some hf
        refine .inr ⟨hj.1, fun σ' H' => ∃ ρ M env, Ext X.K ρ0 H0 ρ H' ∧ Rl X.K ct ρ M H' ∧ EnOk X.K ρ H' env σ' ∧ ∃ fl M', loopF src.stp g f m (i + 1) env M = some (fl, M') ∧ Aft X.K ct ρ H' M' fun ρ' H' => endF X.K D fl ρ' H',
          fun σ' H' n => ⟨m, Nat.lt_succ_self m, n⟩, fun x H' hy => ?_⟩
        obtain ⟨y1, y2, y3⟩ := hj.2 x H' hy
        refine ⟨ρ, M, env, d, y2, he.mono y1, y3, e1, N1, g1, fun ρ1 H1 x1 r1 σ1 en1 _ => ⟨ρ1, N1, e1, r1, en1, f1, N2, g2, fun ρ2 H2 x2 r2 => ?_⟩⟩
        have xx := (y1.trans x1).trans x2
        cases f1 with
        | nx e3 => exact fun σ2 en2 => ⟨ρ2, N2, e3, x0.trans xx, r2, en2, fl, M', hf, hq.later xx⟩
        | ct e3 => exact fun σ2 en2 => ⟨ρ2, N2, e3, x0.trans xx, r2, en2, fl, M', hf, hq.later xx⟩
        | bk e3 => cases hf; exact fun σ2 en2 => hq ρ2 H2 xx r2 σ2 en2
        | rt d => cases hf; exact hq ρ2 H2 xx r2
/-! ## comprehensions, one clause -/
def wipeE (env : En) : List Nat → En
  | [] => env
  | v :: vs => (wipeE env vs).set v none
theorem EnOk.forget {K : Frg} {ρ : List Addr} {H : Hp} {env : En} {σ : L2.St} (h : EnOk K ρ H env σ) (i : Nat) : EnOk K ρ H (env.set i none) (σ.set i none) := by
  refine ⟨by simp [h.1], fun j x q => ?_⟩
  by_cases hij : i = j
  · subst hij
    rw [List.getElem?_set] at q
    split at q
    · split at q
      · cases q
      · cases q
    · exact absurd rfl (by assumption)
  · rw [List.getElem?_set_ne hij] at q
    obtain ⟨u, h1, h2⟩ := h.2 j x q
    exact ⟨u, by rw [List.getElem?_set_ne hij]; exact h1, h2⟩
theorem EnOk.wipe {K : Frg} {ρ : List Addr} {H : Hp} {env : En} {σ : L2.St} (h : EnOk K ρ H env σ) : ∀ vs : List Nat, EnOk K ρ H (wipeE env vs) (L2.wipe σ vs)
  | [] => h
  | v :: vs => (EnOk.wipe h vs).forget v
theorem getElem?_wipe (σ : L2.St) (i : Nat) : ∀ vs : List Nat, (L2.wipe σ vs)[i]? = if i ∈ vs then (if i < σ.length then some none else none) else σ[i]?
  | [] => by simp [L2.wipe]
  | v :: vs => by
    unfold L2.wipe
    rw [List.getElem?_set, getElem?_wipe σ i vs, L2.wipe_length]
    by_cases hv : v = i
    · subst hv; simp
    · simp [hv, Ne.symm hv]
theorem wipe_eq {vs : List Nat} {σ σ' : L2.St} (h : OutEq vs (L2.wipe σ vs) σ') : L2.wipe σ' vs = L2.wipe σ vs := by
  apply List.ext_getElem?
  intro i
  have hl : σ'.length = σ.length := by rw [h.1, L2.wipe_length]
  rw [getElem?_wipe, getElem?_wipe, hl]
  by_cases hi : i ∈ vs
  · simp [hi]
  · rw [if_neg hi, if_neg hi, h.2 i hi, getElem?_wipe, if_neg hi]
/-- the turns: the new list stands at cell n -/
def compF (it : Stp) (g : FG) (ft : FT) (fe : FE) (e0 : En) (n : Nat) : Nat → Nat → Mem → Option Mem
  | 0, i, M => match it i M with
    | some none => some M
    | _ => none
  | k + 1, i, M => match it i M with
    | some none => some M
    | some (some d) => match g d e0 M with
      | some (e1, M1) => match ft e1 M1 with
        | some (true, M2) => match fe e1 M2 with
          | some (y, M3) => match M3[n]? with
            | some (.lst acc) => if acc.length < sizeLine then compF it g ft fe e0 n k (i + 1) (M3.set n (.lst (acc ++ [y]))) else none
            | _ => none
          | none => none
        | some (false, M2) => compF it g ft fe e0 n k (i + 1) M2
        | none => none
      | none => none
    | none => none
def fComp (fi : FI) (vs : List Nat) (g : FG) (ft : FT) (fe : FE) : FE := fun env M => bnd (fi env M) fun src M1 =>
  match compF src.stp g ft fe (wipeE env vs) M1.length src.many 0 (M1 ++ [.lst []]) with
  | some M2 => some (.loc M1.length, M2)
  | none => none
def fYes : FT := fun _ M => some (true, M)
abbrev STs (X : Cx) (ct : Ct) (ifs : List Expr) (f : FT) : Prop := PTs X ifs (tT X.K ct f)
theorem PTs.imp {ifs : List Expr} {t t' : TT} (h : PTs X ifs t) (k : ∀ σ H Q, t' σ H Q → t σ H Q) : PTs X ifs t' := ⟨fun pins s σ H Q I w => h.run pins s σ H Q I (k σ H Q w)⟩
theorem sts_nil : STs X ct [] fYes := PTs.imp pts_nil fun σ H Q ⟨ρ, M, env, r, he, b, M', hf, hq⟩ => by
  cases hf
  exact hq ρ H .refl r
theorem sts_one {c : Expr} {ft : FT} (h : ST X ct c ft) : STs X ct [c] ft := pts_one h
/-- a comprehension's block -/
abbrev Cx.cb (X : Cx) (scope : Scope) (s : Shared) (H : Hp) (C : Addr) (cl : List (Str × Addr)) (fp : List Addr) : Cx := X.blk s H scope (compEnvC scope cl C X.env) fp
theorem lc_imp {vs : List Nat} {ft : FT} {σ : L2.St} {H : Hp} {Q : VK} (w : tE X.K ct (fComp fi vs g ft fe) σ H Q) : tLc (tI X.K ct fi) (tG X.K ct vs g) (tT X.K ct ft) (tE X.K ct fe) vs σ H Q := by
  obtain ⟨ρ, M, env, r, he, d, M', hf, hq⟩ := w
  obtain ⟨src, M1, h1, hf⟩ := bnd_some hf
  split at hf
  · rename_i M2 hc
    cases hf
    refine ⟨ρ, M, env, r, he, src, M1, h1, fun ρ0 H0 e0 r0 J hJ D hD => ?_⟩
    obtain ⟨rN, xN, aN⟩ := r0.newL hD (.nil : DVs X.K ρ0 H0 [] [])
    refine ⟨fun i m H => ∃ ρ M, Ext X.K ρ0 H0 ρ H ∧ Rl X.K ct ρ M H ∧ ρ[M1.length]? = some D ∧ compF src.stp g ft fe (wipeE env vs) M1.length m i M = some M' ∧ Aft X.K ct ρ H M' fun ρ' H' => ∀ v, DV X.K ρ' H' (.loc M1.length) v → Q v H',
      ⟨src.many, ρ0 ++ [D], _, xN, rN, aN, hc, (hq.later e0).later xN⟩, ?_⟩
    rintro i m H ⟨ρ, M, x0, r, aD, hf, hq⟩
    have hj := hJ i ρ M H x0 r
    have he' := ((he.mono e0).mono x0).wipe vs
    cases q : src.stp i M with
    | none =>
      cases m with
      | zero => rw [compF, q] at hf; cases hf
      | succ m => rw [compF, q] at hf; cases hf
    | some o =>
      rw [q] at hj
      cases o with
      | none =>
        have e : some M = some M' := by
          cases m with
          | zero => rw [compF, q] at hf; exact hf
          | succ m => rw [compF, q] at hf; exact hf
        cases e
        exact .inl ⟨hj, hq ρ H .refl r _ (.loc aD)⟩
      | some d =>
        cases m with
        | zero => rw [compF, q] at hf; cases hf
        | succ m =>
          rw [compF, q] at hf
          dsimp only at hf
          refine .inr ⟨hj.1, fun H' => ∃ ρ M, Ext X.K ρ0 H0 ρ H' ∧ Rl X.K ct ρ M H' ∧ ρ[M1.length]? = some D ∧ compF src.stp g ft fe (wipeE env vs) M1.length m (i + 1) M = some M' ∧ Aft X.K ct ρ H' M' fun ρ' H' => ∀ v, DV X.K ρ' H' (.loc M1.length) v → Q v H',
            fun H' n => ⟨m, Nat.lt_succ_self m, n⟩, fun x H' hy => ?_⟩
          obtain ⟨y1, y2, y3⟩ := hj.2 x H' hy
          split at hf
          · rename_i e1 N1 g1
            refine ⟨ρ, M, wipeE env vs, d, y2, he'.mono y1, y3, e1, N1, g1, fun ρ1 H1 x1 r1 σ1 en1 oe => ⟨wipe_eq oe, ?_⟩⟩
            split at hf
            · rename_i N2 g2
              refine ⟨ρ1, N1, e1, r1, en1, true, N2, g2, fun ρ2 H2 x2 r2 => ?_⟩
              dsimp only
              rw [if_pos rfl]
              split at hf
              · rename_i y N3 g3
                refine ⟨ρ2, N2, e1, r2, en1.mono x2, y, N3, g3, fun ρ3 H3 x3 r3 v dv => ?_⟩
                split at hf
                · rename_i acc hm
                  split at hf
                  · rename_i hl
                    have xx := ((y1.trans x1).trans x2).trans x3
                    have aD3 := xx.pre _ _ aD
                    obtain ⟨b, ws, eb, b1, b2, b3⟩ := r3.lst hm (.loc aD3)
                    cases eb
                    obtain ⟨r4, x4⟩ := r3.putL aD3 b2 (b3.append (.cons dv .nil))
                    exact ⟨ws, b2, by rw [← b3.length]; exact hl, ρ3, _, (x0.trans xx).trans x4, r4, aD3, hf, hq.later (xx.trans x4)⟩
                  · cases hf
                · cases hf
              · cases hf
            · rename_i N2 g2
              refine ⟨ρ1, N1, e1, r1, en1, false, N2, g2, fun ρ2 H2 x2 r2 => ?_⟩
              dsimp only
              rw [if_neg (by decide)]
              have xx := (y1.trans x1).trans x2
              exact ⟨ρ2, N2, x0.trans xx, r2, xx.pre _ _ aD, hf, hq.later xx⟩
            · cases hf
          · cases hf
  · cases hf
theorem se_comp {elt : Expr} {ifs : List Expr} {scope : Scope} {own : List (Str × Nat)} {ft : FT} (hc : X.calm = true) (hN : X.N.Nodup) (hi : SI X ct tg iter fi) (ok : BlkOk X.N X.env.scope scope own)
    (hg : ∀ s H C cl fp, SG (Cx.cb X scope s H C cl fp) ct (own.map (·.2)) tg g) (ht : ∀ s H C cl fp, STs (Cx.cb X scope s H C cl fp) ct ifs ft)
    (he : ∀ s H C cl fp, SE (Cx.cb X scope s H C cl fp) ct elt fe) (hs : ∀ x, foldedSetIterable iter X.env x = pure x := by intro _; rfl) : SE X ct (.ListComp elt [⟨tg, iter, ifs, 0⟩] scope pos) (fComp fi (own.map (·.2)) g ft fe) :=
  PE.imp (pe_lc hc hN hi ok hg ht he hs) fun _ _ _ w => lc_imp w
/-- name = [..] -/
theorem ss_setLc {i : Nat} {y : Str} {py : Pos} {elt : Expr} {ifs : List Expr} {scope : Scope} {own : List (Str × Nat)} {ft : FT} {spos : Pos} (hc : X.calm = true) (hN : X.N.Nodup) (hy : X.N[i]? = some y) (hyl : X.env.scope.names.lookup y = some .local)
    (hsw : swapsWith (.ListComp elt [⟨tg, iter, ifs, 0⟩] scope pos) (some (.Name y py)) spos.line X.env = pure true) (hi : SI X ct tg iter fi) (ok : BlkOk X.N X.env.scope scope own)
    (hg : ∀ s H C cl fp, SG (Cx.cb X scope s H C cl fp) ct (own.map (·.2)) tg g) (ht : ∀ s H C cl fp, STs (Cx.cb X scope s H C cl fp) ct ifs ft)
    (he : ∀ s H C cl fp, SE (Cx.cb X scope s H C cl fp) ct elt fe) (hs : ∀ x, foldedSetIterable iter X.env x = pure x := by intro _; rfl) :
    SS X ct (.Assign [.Name y py] (.ListComp elt [⟨tg, iter, ifs, 0⟩] scope pos) spos) (fSet i (fComp fi (own.map (·.2)) g ft fe)) :=
  PS.imp (ps_setLc hc hN hy hyl hsw hi ok hg ht he hs) fun D σ H ⟨ρ, M, env, r, hen, fl, M', hf, hq⟩ => by
    obtain ⟨d, M1, h1, hf⟩ := bnd_some hf
    cases hf
    exact lc_imp ⟨ρ, M, env, r, hen, d, _, h1, fun ρ1 H1 e1 r1 v dv => hq ρ1 H1 e1 r1 _ ((hen.mono e1).set i dv)⟩
end
end Zl

/-! text Z9 -/
namespace Zl
open PySem L2 PySem.Spec PyProof.Rows

/-! ## Defs -/
/-- a def of which no error leaves, called where no repr runs -/
structure FnG (P : Program) (w : World) (K : Frg) (mg : Str → Option Value) (base : Heap) (k : Nat) (f : Addr) (fd : FuncData) (ps : List Str) (sp : Sp) : Prop where
  len : ∀ vs H Q E, sp vs H Q E → vs.length = ps.length
  run : ∀ (A : Around) (outer : List Env) (s : Shared) (H : Hp) (args : Args) (us : List Value) (vs : List V) (Q : VK) (E : XK), Room k A → A.guards = some [] → Env0 P w K mg base A outer s H → BindsTo s fd args (ps.zip us) → Vals vs us → sp vs H Q E →
    codeAny (model P w) A (.call (.ref f) args) (CR CX0 outer P w H s Q E) s
theorem FnG.mono {P : Program} {w : World} {K : Frg} {mg : Str → Option Value} {base : Heap} {j k : Nat} {f : Addr} {fd : FuncData} {ps : List Str} {sp : Sp} (F : FnG P w K mg base j f fd ps sp) (h : j ≤ k) : FnG P w K mg base k f fd ps sp :=
  ⟨F.len, fun A outer s H args us vs Q E hr => F.run A outer s H args us vs Q E (hr.mono h)⟩
abbrev FF := List Dv → Mem → Rz
def spF (K : Frg) (ct : Ct) (F : FF) (n : Nat) : Sp := fun vs H Q _ => vs.length = n ∧ ∃ ρ M ds, Rl K ct ρ M H ∧ DVs K ρ H ds vs ∧ ∃ d M', F ds M = some (d, M') ∧ Aft K ct ρ H M' fun ρ' H' => ∀ v, DV K ρ' H' d v → Q v H'
/-- the def's value by its body; n names in all -/
def callF (n : Nat) (f : FS) : FF := fun ds M => match f (ds.map some ++ List.replicate (n - ds.length) none) M with
  | some (.rt d, M') => some (d, M')
  | some (.nx _, M') => some (.non, M')
  | _ => none
theorem enOk_start {K : Frg} {ρ : List Addr} {H : Hp} {N : List Str} {ds : List Dv} {vs : List V} (h : DVs K ρ H ds vs) : EnOk K ρ H (ds.map some ++ List.replicate (N.length - ds.length) none) (L2.start N vs) := by
  have hl := h.length
  refine ⟨by simp [L2.start, hl], fun i d q => ?_⟩
  by_cases hi : i < ds.length
  · rw [List.getElem?_append_left (by simpa using hi), List.getElem?_map] at q
    have e : ds[i]? = some d := by
      cases z : ds[i]? with
      | none => rw [z] at q; simp at q
      | some y => rw [z] at q; simp at q; rw [q]
    obtain ⟨v, h1, h2⟩ := h.get e
    refine ⟨v, ?_, h2⟩
    unfold L2.start
    rw [List.getElem?_append_left (by rw [List.length_map, ← hl]; exact hi), List.getElem?_map, h1]; rfl
  · rw [List.getElem?_append_right (by simpa using hi), List.getElem?_replicate] at q
    split at q <;> cases q
section
variable {P : Program} {w : World} {K : Frg} {mg : Str → Option Value} {base : Heap} {ct : Ct}
/-- THE RULE: a def by its body -/
theorem fn_sim {x qual : Str} {st : Stmt} {f : Addr} {fd : FuncData} {N ps : List Str} {k : Nat} {b : FS} (F : Fun K x qual st f fd) (S : FnScope N ps (defScope st))
    (hbody : ∀ (cdv : Value) (A : Around) (outer : List Env) (s : Shared) (H : Hp) (E : XK), Room k (A.deeper (envOfC qual (defScope st) s.heap.objs.size f cdv)) → (A.deeper (envOfC qual (defScope st) s.heap.objs.size f cdv)).guards = some [] →
      SSs (cxOf CX0 P w K mg base N qual (defScope st) f cdv A outer s H E).nox ct (defBody st) b) : FnG P w K mg base (k + 1) f fd ps (spF K ct (callF N.length b) ps.length) := by
  obtain ⟨oc, od, kV, doc, pm, an, cdv, ct', osl, rfl, lk, hcd⟩ := F.ex
  refine ⟨fun vs H Q E h => h.1, fun A outer s H args us vs Q E hr hgd e0 hb r hsp => ?_⟩
  obtain ⟨hl, ρ, M, ds, rl, dv, d, M', hf, hq⟩ := hsp
  have KX : K.In s.heap := e0.mod.kin.keeps fun b o e => (e0.bs b o e).1
  have lim : s.heap.NoLimit := e0.mod.nolimit.keeps fun b o e => (e0.bs b o e).1
  have hkind : ∀ y ∈ ps.zip us, (defScope st).names.lookup y.1 = some .local ∨ ((defScope st).names.lookup y.1 = some .cell ∧ ((cellsFrom (s.heap.objs.size + 1) (defScope st).names []).lookup y.1).isSome = true) := by
    rintro ⟨n, v⟩ hy
    rcases S.par n (List.of_mem_zip hy).1 with z | z
    · exact .inl z
    · exact .inr ⟨z, PySem.W.cellsFrom_some _ _ _ (.inl z)⟩
  refine codeAny_call_function hr.depth (KX _ _ lk) rfl S.co S.gen rfl (PySem.W.codeRec_of KX hcd) (hb _ _ _ _ ?_)
  refine wpAny_newFunctionEnv_cells S.kind hkind fun env hen s1 x1 => ?_
  subst hen
  refine ⟨lim.keeps x1.toInCall.keep, codeAny_func ?_⟩
  have B := hbody cdv A outer s H E (hr.deeper _) hgd
  have I : Inv (cxOf CX0 P w K mg base N qual (defScope st) f cdv A outer s H E) [] (L2.start N vs) H s1 := inv_start S hr.hd e0 hl r x1
  unfold callF at hf
  have hw : ∃ fl, b (ds.map some ++ List.replicate (N.length - ds.length) none) M = some (fl, M') ∧ ((fl = .rt d) ∨ ∃ e, fl = .nx e ∧ d = .non) := by
    split at hf
    · rename_i z
      cases hf
      exact ⟨_, z, .inl rfl⟩
    · rename_i z
      cases hf
      exact ⟨_, z, .inr ⟨_, rfl, rfl⟩⟩
    · cases hf
  obtain ⟨fl, hb1, hfl⟩ := hw
  have Z := (PSs.nox B).run [] s1 (L2.start N vs) H { nx := fun _ H' => Q .non H', rt := Q } I ⟨ρ, M, _, rl, enOk_start dv, fl, M', hb1, fun ρ' H' e' r' => by
    rcases hfl with rfl | ⟨e, rfl, rfl⟩
    · exact fun v hv => hq ρ' H' e' r' v hv
    · exact fun σ _ => hq ρ' H' e' r' _ .non⟩
  refine wpAny_mono Z (fun fl s' hs => ?_) fun e s' hs => hs
  have fin : ∀ {σ' : L2.St} {H' : Hp} {v : V} {u : Value}, Inv (cxOf CX0 P w K mg base N qual (defScope st) f cdv A outer s H E) [] σ' H' s' → RelV v u → Q v H' → CE outer P w H s Q u s' :=
    fun {σ' H' v u} J rv q => ⟨v, H', J.os, J.bare, J.base, J.hok, rv, q⟩
  cases fl with
  | ret u =>
    obtain ⟨v, σ', H', J, rv, q⟩ := hs
    exact fin J rv q
  | next =>
    obtain ⟨σ', H', J, q⟩ := hs
    exact fin (v := V.non) (u := Value.none) J rfl q
  | brk => exact False.elim hs.choose_spec.choose_spec.2
  | cont => exact False.elim hs.choose_spec.choose_spec.2
end
section
variable {X : Cx} {ct : Ct} {k : Nat} {f C : Addr} {fd : FuncData} {ps : List Str} {F : FF} {x m : Str} {p pos apos : Pos} {e o v' : Expr} {es : List Expr} {fr : FA} {fo fv : FE} {c : Nat}
abbrev SF (X : Cx) (ct : Ct) (k : Nat) (f : Addr) (fd : FuncData) (ps : List Str) (F : FF) : Prop := FnG X.prog X.w X.K X.mg X.base k f fd ps (spF X.K ct F ps.length)
/-- the callee runs -/
theorem run_fnG {pins : List (Addr × Obj)} {σ : L2.St} {H : Hp} {s : Shared} {Q : VK} {us us' : List Value} {kw : List (Str × Value)} {vs : List V} {sp : Sp} (G : FnG X.prog X.w X.K X.mg X.base k f fd ps sp) (hr : Room k X.A) (hgd : X.A.guards = some [])
    (I : Inv X pins σ H s) (bt : BindsTo s fd ⟨us, kw⟩ (ps.zip us')) (r : Vals vs us') (h : sp vs H Q E0) : wpAny (model X.prog X.w) X.A (call (.ref f) us kw) (EP X pins σ Q) X.xe s := by
  refine wpAny_call (codeAny_mono (G.run X.A X.stack s H ⟨us, kw⟩ us' vs Q E0 hr hgd I.env0 bt r h) fun z s' hq => ?_)
  match z, hq with
  | .ok (.ret u), hq => exact I.after hq
theorem spF_use {ρ ρ1 : List Addr} {M1 M' : Mem} {H H1 : Hp} {d : Dv} {ds : List Dv} {vs : List V} {n : Nat} {Q : VK} (hn : ds.length = n) (e1 : Ext X.K ρ H ρ1 H1) (r1 : Rl X.K ct ρ1 M1 H1) (dvs : DVs X.K ρ1 H1 ds vs) (hf : F ds M1 = some (d, M'))
    (hq : Aft X.K ct ρ H M' fun ρ' H' => ∀ v, DV X.K ρ' H' d v → Q v H') : spF X.K ct F n vs H1 Q E0 :=
  ⟨by rw [← dvs.length]; exact hn, ρ1, M1, ds, r1, dvs, d, M', hf, hq.later e1⟩
/-- f(e, ..) -/
def fCall (n : Nat) (F : FF) (fr : FA) : FE := fun env M => bnd (fr env M) fun ds M1 => if ds.length = n then F ds M1 else none
theorem se_call (G : SF X ct k f fd ps F) (hr : Room k X.A) (hgd : X.A.guards = some []) (hg : Gl X x) (hm : X.mg x = some (.ref f)) (hk : PySem.W.keepIn X.K (.ref f) = true) (hb : Binds X.K fd ps []) (ha : SA X ct (e :: es) fr)
    (hdb : (x == ("__debug__" : Str)) = false := by decide) (he : starEach (e :: es) X.env = (false, eval e X.env) :: starEach es X.env := by rfl)
    (hpl : (backTo pos (starEach es X.env)).any (·.1) = false := by rfl) : SE X ct (.Call (.Name x p) (e :: es) [] pos) (fCall ps.length F fr) := by
  refine ⟨fun pins s σ H Q I w => ?_⟩
  obtain ⟨ρ, M, env, r, hen, d, M', hf, hq⟩ := w
  obtain ⟨ds, M1, h1, hf⟩ := bnd_some hf
  split at hf
  · rename_i hn
    refine wpAny_Call_Name_kw (ld_glob I hg hm ?_ hdb)
    refine PySem.W.callWith_K (h₀ := X.base) I.ok.mod.kin hk (thn (ha.run pos pins s σ H (fun vs H1 => ∃ ρ1, Ext X.K ρ H ρ1 H1 ∧ Rl X.K ct ρ1 M1 H1 ∧ DVs X.K ρ1 H1 ds vs) I ⟨ρ, M, env, r, hen, ds, M1, h1, fun ρ1 H1 e1 r1 vs dvs => ⟨ρ1, e1, r1, dvs⟩⟩) fun us s1 z => ?_) he hpl
    obtain ⟨vs, H1, I1, rv, ρ1, e1, r1, dvs⟩ := z
    refine ⟨I1.kIn, run_fnG G hr hgd I1 (hb s1 us I1.kIn (by rw [List.append_nil, ← rv.length, ← dvs.length]; exact hn)) (by rw [List.append_nil]; exact rv) (spF_use hn e1 r1 dvs hf hq)⟩
  · cases hf
theorem se_call0 (G : SF X ct k f fd ps F) (hr : Room k X.A) (hgd : X.A.guards = some []) (hg : Gl X x) (hm : X.mg x = some (.ref f)) (hk : PySem.W.keepIn X.K (.ref f) = true) (hb : Binds X.K fd ps [])
    (hdb : (x == ("__debug__" : Str)) = false := by decide) : SE X ct (.Call (.Name x p) [] [] pos) (fCall ps.length F fNil) := by
  refine ⟨fun pins s σ H Q I w => ?_⟩
  obtain ⟨ρ, M, env, r, hen, d, M', hf, hq⟩ := w
  obtain ⟨ds, M1, h1, hf⟩ := bnd_some hf
  cases h1
  split at hf
  · rename_i hn
    refine wpAny_Call_Name_kw (ld_glob I hg hm ?_ hdb)
    exact PySem.W.callWith_K0 I.kIn hk (run_fnG (us := []) (us' := []) (vs := []) G hr hgd I (hb s [] I.kIn (by simpa using hn)) .nil (spF_use hn .refl r .nil hf hq))
  · cases hf
/-! ### keywords -/
abbrev SK (X : Cx) (ct : Ct) (kws : List Keyword) (f : FA) : Prop := PK X kws (tA X.K ct f)
theorem PK.imp {kws : List Keyword} {t t' : TA} (h : PK X kws t) (q : ∀ σ H Q, t' σ H Q → t σ H Q) : PK X kws t' := ⟨fun pos pins s σ H Q I w => h.run pos pins s σ H Q I (q σ H Q w)⟩
theorem sk_nil : SK X ct [] fNil := PK.imp pk_nil fun σ H Q ⟨ρ, M, env, r, he, d, M', hf, hq⟩ => by
  cases hf
  exact hq ρ H .refl r _ .nil
theorem sk_cons {kws : List Keyword} {nm : Option Str} {kpos : Pos} (h : SE X ct e fo) (q : SK X ct kws fr) : SK X ct (⟨nm, e, kpos⟩ :: kws) (fCons fo fr) :=
  PK.imp (pk_cons h q) fun σ H Q ⟨ρ, M, env, r, he, d, M', hf, hq⟩ => by
    obtain ⟨x, M1, h1, hf⟩ := bnd_some hf
    obtain ⟨ys, M2, h2, hf⟩ := bnd_some hf
    cases hf
    exact ⟨ρ, M, env, r, he, x, M1, h1, fun ρ1 H1 e1 r1 v dv => ⟨ρ1, M1, env, r1, he.mono e1, ys, _, h2, fun ρ2 H2 e2 r2 vs dvs => hq ρ2 H2 (e1.trans e2) r2 _ (.cons (dv.mono e2) dvs)⟩⟩
def pick {α : Type} (is : List Nat) (xs : List α) : List α := is.filterMap fun i => xs[i]?
theorem pick_vals {vs : List V} {us : List Value} (h : Vals vs us) : ∀ is : List Nat, Vals (pick is vs) (pick is us)
  | [] => .nil
  | i :: is => by
    unfold pick
    rw [List.filterMap_cons, List.filterMap_cons]
    cases q : vs[i]? with
    | none => rw [h.none_of q]; exact pick_vals h is
    | some v =>
      obtain ⟨u, h1, h2⟩ := h.get q
      rw [h1]; exact .cons h2 (pick_vals h is)
theorem pick_dvs {K : Frg} {ρ : List Addr} {H : Hp} {ds : List Dv} {vs : List V} (h : DVs K ρ H ds vs) : ∀ is : List Nat, DVs K ρ H (pick is ds) (pick is vs)
  | [] => .nil
  | i :: is => by
    unfold pick
    rw [List.filterMap_cons, List.filterMap_cons]
    cases q : ds[i]? with
    | none =>
      have z : vs[i]? = none := List.getElem?_eq_none_iff.mpr (by rw [← h.length]; exact List.getElem?_eq_none_iff.mp q)
      rw [z]; exact pick_dvs h is
    | some v =>
      obtain ⟨u, h1, h2⟩ := h.get q
      rw [h1]; exact .cons h2 (pick_dvs h is)
/-- how a call by keywords alone binds: parameter j gets the keyword is[j] -/
def KwB (K : Frg) (fd : FuncData) (ps ks : List Str) (is : List Nat) : Prop := ∀ (s : Shared) (ws : List Value), K.In s.heap → ws.length = ks.length → BindsTo s fd ⟨[], ks.zip ws⟩ (ps.zip (pick is ws))
def fCallK (n nk : Nat) (is : List Nat) (F : FF) (fr : FA) : FE := fun env M => bnd (fr env M) fun ds M1 => if ds.length = nk ∧ (pick is ds).length = n then F (pick is ds) M1 else none
theorem se_callK {kws : List Keyword} {ks : List Str} {is : List Nat} (G : SF X ct k f fd ps F) (hr : Room k X.A) (hgd : X.A.guards = some []) (hg : Gl X x) (hm : X.mg x = some (.ref f)) (hk : PySem.W.keepIn X.K (.ref f) = true) (hb : KwB X.K fd ps ks is) (ha : SK X ct kws fr)
    (hall : (backToKw pos (keywordEach kws X.env)).all (·.1.isSome) = true := by rfl) (hks : (backToKw pos (keywordEach kws X.env)).filterMap (·.1) = ks := by rfl) (hdb : (x == ("__debug__" : Str)) = false := by decide)
    (hpl : ((backTo pos (starEach [] X.env)).any (·.1) || (backToKw pos (keywordEach kws X.env)).any (·.1.isNone)) = false := by rfl) : SE X ct (.Call (.Name x p) [] kws pos) (fCallK ps.length ks.length is F fr) := by
  refine ⟨fun pins s σ H Q I w => ?_⟩
  obtain ⟨ρ, M, env, r, hen, d, M', hf, hq⟩ := w
  obtain ⟨ds, M1, h1, hf⟩ := bnd_some hf
  split at hf
  · rename_i hn
    refine wpAny_Call_Name_kw (ld_glob I hg hm ?_ hdb)
    refine PySem.W.callWith_KW0 (h₀ := X.base) I.ok.mod.kin hk hall ?_ hpl
    refine thn (ha.run pos pins s σ H (fun vs H1 => ∃ ρ1, Ext X.K ρ H ρ1 H1 ∧ Rl X.K ct ρ1 M1 H1 ∧ DVs X.K ρ1 H1 ds vs) I ⟨ρ, M, env, r, hen, ds, M1, h1, fun ρ1 H1 e1 r1 vs dvs => ⟨ρ1, e1, r1, dvs⟩⟩) fun us s1 z => ?_
    obtain ⟨vs, H1, I1, rv, ρ1, e1, r1, dvs⟩ := z
    rw [hks]
    exact ⟨I1.kIn, run_fnG G hr hgd I1 (hb s1 us I1.kIn (by rw [← rv.length, ← dvs.length]; exact hn.1)) (pick_vals rv is) (spF_use hn.2 e1 r1 (pick_dvs dvs is) hf hq)⟩
  · cases hf
/-! ## Instances -/
def putD (f : Str) (v : Dv) : List (Str × Dv) → List (Str × Dv)
  | [] => [(f, v)]
  | (g, x) :: r => if g = f then (g, v) :: r else (g, x) :: putD f v r
section
variable {K : Frg} {ρ : List Addr} {H : Hp}
theorem FV.nil : FV K ρ H [] [] := ⟨rfl, .nil⟩
theorem FV.length {fs : List (Str × Dv)} {vfs : List (Str × V)} (h : FV K ρ H fs vfs) : fs.length = vfs.length := by
  have := congrArg List.length h.1
  simpa using this
theorem FV.split {f : Str} {d : Dv} {fs : List (Str × Dv)} {vfs : List (Str × V)} (h : FV K ρ H ((f, d) :: fs) vfs) : ∃ v r, vfs = (f, v) :: r ∧ DV K ρ H d v ∧ FV K ρ H fs r := by
  obtain ⟨h1, h2⟩ := h
  cases vfs with
  | nil => cases h1
  | cons q r =>
    obtain ⟨g, v⟩ := q
    simp only [List.map_cons, List.cons.injEq] at h1
    obtain ⟨rfl, h1⟩ := h1
    cases h2 with
    | cons d1 dr => exact ⟨v, r, rfl, d1, h1, dr⟩
theorem FV.look : ∀ {fs : List (Str × Dv)} {vfs : List (Str × V)} {f : Str}, FV K ρ H fs vfs → (∀ d, fs.lookup f = some d → ∃ v, vfs.lookup f = some v ∧ DV K ρ H d v) ∧ (fs.lookup f = none → vfs.lookup f = none)
  | [], vfs, f, h => by
    obtain ⟨h1, _⟩ := h
    cases vfs with
    | nil => exact ⟨fun d q => (by cases q), fun _ => rfl⟩
    | cons _ _ => cases h1
  | (g, d) :: fs, vfs, f, h => by
    obtain ⟨v, r, rfl, h1, h2⟩ := h.split
    obtain ⟨i1, i2⟩ := FV.look (f := f) h2
    rw [List.lookup_cons, List.lookup_cons]
    cases hb : f == g with
    | true => exact ⟨fun d' q => ⟨v, rfl, (by cases q; exact h1)⟩, fun q => (by cases q)⟩
    | false => exact ⟨i1, i2⟩
theorem FV.put {f : Str} {d : Dv} {v : V} (hd : DV K ρ H d v) : ∀ {fs : List (Str × Dv)} {vfs : List (Str × V)}, FV K ρ H fs vfs → FV K ρ H (putD f d fs) (putF f v vfs)
  | [], vfs, h => by
    obtain ⟨h1, _⟩ := h
    cases vfs with
    | nil => exact ⟨rfl, .cons hd .nil⟩
    | cons _ _ => cases h1
  | (g, d') :: fs, vfs, h => by
    obtain ⟨u, r, rfl, h1, h2⟩ := h.split
    unfold putD putF
    by_cases hg : g = f
    · rw [if_pos hg, if_pos hg]
      exact ⟨by simp [h2.1], .cons hd h2.2⟩
    · rw [if_neg hg, if_neg hg]
      obtain ⟨i1, i2⟩ := FV.put hd h2
      exact ⟨by simp [i1], .cons h1 i2⟩
end
theorem Rl.ins {K : Frg} {ρ : List Addr} {M : Mem} {H : Hp} (r : Rl K ct ρ M H) {n : Nat} {fs : List (Str × Dv)} (hm : M[n]? = some (.ins c fs)) {v : V} (hv : DV K ρ H (.loc n) v) :
    ∃ a C dx vfs, v = .ref a ∧ ρ[n]? = some a ∧ ct c = some C ∧ H a = some (.ins C dx vfs) ∧ FV K ρ H fs vfs := by
  obtain ⟨a, h1, C, dx, vfs, h2, h3, h4⟩ := r.ok n _ hm
  cases hv with
  | loc h => rw [h] at h1; cases h1; exact ⟨_, C, dx, vfs, rfl, h, h2, h3, h4⟩
/-- o.f -/
def fFld (c : Nat) (f : Str) (fo : FE) : FE := fun env M => bnd (fo env M) fun d M1 => match d with
  | .loc n => match M1[n]? with
    | some (.ins c' fs) => if c' = c then match fs.lookup f with
        | some x => some (x, M1)
        | none => none
      else none
    | _ => none
  | _ => none
theorem se_fld {fld : Str} (ho : SE X ct o fo) (hc : ct c = some C) (cl : Cls X.K C) (na : NoAttr X.K C fld) (hb : attributeBase o fld X.env (eval o X.env) = eval o X.env := by rfl) : SE X ct (.Attribute o fld pos) (fFld c fld fo) :=
  PE.imp (pe_fld ho hb) fun σ H Q ⟨ρ, M, env, r, he, d, M', hf, hq⟩ => by
    obtain ⟨x, M1, h1, hf⟩ := bnd_some hf
    refine ⟨ρ, M, env, r, he, x, M1, h1, fun ρ1 H1 e1 r1 v dv => ?_⟩
    split at hf
    · split at hf
      · rename_i hm
        split at hf
        · rename_i hcc
          split at hf
          · rename_i y hy
            cases hf
            subst hcc
            obtain ⟨a, C', dx, vfs, rfl, a1, a2, a3, a4⟩ := r1.ins hm dv
            rw [hc] at a2; cases a2
            obtain ⟨u, u1, u2⟩ := a4.look.1 _ hy
            exact ⟨a, C, dx, vfs, u, rfl, a3, cl, na, u1, hq ρ1 H1 e1 r1 _ u2⟩
          · cases hf
        · cases hf
      · cases hf
    · cases hf
/-- o.f = e -/
def fPut (c : Nat) (f : Str) (fo fv : FE) : FS := fun env M => bnd (fv env M) fun y M1 => bnd (fo env M1) fun d M2 => match d with
  | .loc n => match M2[n]? with
    | some (.ins c' fs) => if c' = c ∧ fs.length < 1000 then some (.nx env, M2.set n (.ins c (putD f y fs))) else none
    | _ => none
  | _ => none
theorem ss_fld {fld : Str} {pos' : Pos} (ho : SE X ct o fo) (hv : SE X ct v' fv) (hc : ct c = some C) (cl : Cls X.K C) (na : NoAttr X.K C fld) (hs : swapsWith v' (some (.Attribute o fld pos')) pos.line X.env = pure false := by rfl) :
    SS X ct (.Assign [.Attribute o fld pos'] v' pos) (fPut c fld fo fv) :=
  PS.imp (ps_fld ho hv hs) fun D σ H ⟨ρ, M, env, r, he, fl, M', hf, hq⟩ => by
    obtain ⟨y, M1, h1, hf⟩ := bnd_some hf
    obtain ⟨d, M2, h2, hf⟩ := bnd_some hf
    refine ⟨ρ, M, env, r, he, y, M1, h1, fun ρ1 H1 e1 r1 v dv => ⟨ρ1, M1, env, r1, he.mono e1, d, M2, h2, fun ρ2 H2 e2 r2 u du => ?_⟩⟩
    split at hf
    · split at hf
      · rename_i hm
        split at hf
        · rename_i hcc
          cases hf
          obtain ⟨hcc, hl⟩ := hcc
          subst hcc
          obtain ⟨a, C', dx, vfs, rfl, a1, a2, a3, a4⟩ := r2.ins hm du
          rw [hc] at a2; cases a2
          have xs : Ext X.K ρ2 H2 ρ2 (upd H2 a (.ins C dx (putF fld v vfs))) := Ext.soft (fun _ _ z => z) (fun _ q => by rw [a3] at q; cases q) fun _ _ q => by rw [a3] at q; cases q
          obtain ⟨r3, e3⟩ := r2.put (o := .ins _ (putD fld y _)) (o' := .ins C dx (putF fld v vfs)) a1 a3 ⟨C, dx, _, hc, upd_same, (a4.put (dv.mono e2)).mono xs⟩
          exact ⟨a, C, dx, vfs, rfl, a3, cl, na, by rw [← a4.length]; exact hl, hq ρ2 _ ((e1.trans e2).trans e3) r3 σ (((he.mono e1).mono e2).mono e3)⟩
        · cases hf
      · cases hf
    · cases hf
/-- o.m(e, ..) of an own class -/
def isIns (c : Nat) (m : Str) (d : Dv) (M : Mem) : Bool :=
  match d with
  | .loc n => match M[n]? with
    | some (.ins c' fs) => c' == c && (fs.lookup m).isNone
    | _ => false
  | _ => false
def fMeth (c : Nat) (m : Str) (np : Nat) (F : FF) (fo : FE) (fr : FA) : FE := fun env M => bnd (fo env M) fun d M1 => if isIns c m d M1 then bnd (fr env M1) fun ds M2 => if (d :: ds).length = np then F (d :: ds) M2 else none else none
theorem isIns_ok {K : Frg} {ρ : List Addr} {M : Mem} {H : Hp} {d : Dv} {v : V} (r : Rl K ct ρ M H) (hv : DV K ρ H d v) (hc : ct c = some C) (h : isIns c m d M = true) : ∃ a dx vfs, v = .ref a ∧ H a = some (.ins C dx vfs) ∧ vfs.lookup m = none := by
  unfold isIns at h
  split at h
  · split at h
    · rename_i hm
      rw [Bool.and_eq_true] at h
      have e := eq_of_beq h.1
      subst e
      obtain ⟨a, C', dx, vfs, rfl, a1, a2, a3, a4⟩ := r.ins hm hv
      rw [hc] at a2; cases a2
      exact ⟨a, dx, vfs, rfl, a3, a4.look.2 (Option.isNone_iff_eq_none.mp h.2)⟩
    · cases h
  · cases h
theorem se_meth {pl : Sem Bool} (ho : SE X ct o fo) (hc : ct c = some C) (cl : Cls X.K C) (hm : Meth X.K C m f) (G : SF X ct k f fd ps F) (hr : Room k X.A) (hgd : X.A.guards = some []) (hb : Binds X.K fd ps []) (ha : SA X ct (e :: es) fr)
    (hst : starEach (e :: es) X.env = (false, eval e X.env) :: starEach es X.env := by rfl) (hpl : (backTo pos (starEach es X.env)).any (·.1) = false := by rfl)
    (ht : eval (.Call (.Attribute o m apos) (e :: es) [] pos) X.env = (do
      let ov ← eval o X.env
      standAt apos.atName
      let (f, first) ← holding [ov] (getMethod ov m pl)
      callWith pos f first (backTo pos (starEach (e :: es) X.env)) (backToKw pos (keywordEach [] X.env))) := by rfl) :
    SE X ct (.Call (.Attribute o m apos) (e :: es) [] pos) (fMeth c m ps.length F fo fr) := by
  refine ⟨fun pins s σ H Q I w => ?_⟩
  obtain ⟨ρ, M, env, r, hen, d, M', hf, hq⟩ := w
  obtain ⟨y, M1, h1, hf⟩ := bnd_some hf
  split at hf
  · rename_i hi
    obtain ⟨ds, M2, h2, hf⟩ := bnd_some hf
    split at hf
    · rename_i hn
      refine PySem.W.methodCall_KW (pl := pl) (thn (ho.run pins s σ H (fun v H1 => ∃ ρ1, Ext X.K ρ H ρ1 H1 ∧ Rl X.K ct ρ1 M1 H1 ∧ DV X.K ρ1 H1 y v) I ⟨ρ, M, env, r, hen, y, M1, h1, fun ρ1 H1 e1 r1 v dv => ⟨ρ1, e1, r1, dv⟩⟩) fun u s1 z => ?_) ht
      obtain ⟨v, H1, I1, rv, ρ1, e1, r1, dv⟩ := z
      obtain ⟨a, dx, vfs, rfl, a3, a4⟩ := isIns_ok r1 dv hc hi
      obtain rfl : u = Value.ref a := rv
      refine getmeth_ok I1 a3 cl hm a4 ?_
      refine PySem.W.callWith_K (first := [.ref a]) (h₀ := X.base) I.ok.mod.kin hm.kp (thn (ha.run pos pins s1 σ H1 (fun vs H2 => ∃ ρ2, Ext X.K ρ1 H1 ρ2 H2 ∧ Rl X.K ct ρ2 M2 H2 ∧ DVs X.K ρ2 H2 ds vs) I1 ⟨ρ1, M1, env, r1, hen.mono e1, ds, M2, h2, fun ρ2 H2 e2 r2 vs dvs => ⟨ρ2, e2, r2, dvs⟩⟩) fun us s2 z => ?_) hst hpl
      obtain ⟨vs, H2, I2, rvs, ρ2, e2, r2, dvs⟩ := z
      have D2 : DVs X.K ρ2 H2 (y :: ds) (.ref a :: vs) := .cons (dv.mono e2) dvs
      exact ⟨I2.kIn, run_fnG (us := .ref a :: us) (us' := .ref a :: us) G hr hgd I2 (by
        have := hb s2 (.ref a :: us) I2.kIn (by rw [List.append_nil, ← hn, D2.length]; exact congrArg (· + 1) rvs.length.symm)
        rwa [List.append_nil] at this) (.cons (a := V.ref a) rfl rvs) (spF_use hn (e1.trans e2) r2 D2 hf hq)⟩
    · cases hf
  · cases hf
theorem se_meth0 {pl : Sem Bool} (ho : SE X ct o fo) (hc : ct c = some C) (cl : Cls X.K C) (hm : Meth X.K C m f) (G : SF X ct k f fd ps F) (hr : Room k X.A) (hgd : X.A.guards = some []) (hb : Binds X.K fd ps [])
    (ht : eval (.Call (.Attribute o m apos) [] [] pos) X.env = (do
      let ov ← eval o X.env
      standAt apos.atName
      let (f, first) ← holding [ov] (getMethod ov m pl)
      callWith pos f first (backTo pos (starEach [] X.env)) (backToKw pos (keywordEach [] X.env))) := by rfl) :
    SE X ct (.Call (.Attribute o m apos) [] [] pos) (fMeth c m ps.length F fo fNil) := by
  refine ⟨fun pins s σ H Q I w => ?_⟩
  obtain ⟨ρ, M, env, r, hen, d, M', hf, hq⟩ := w
  obtain ⟨y, M1, h1, hf⟩ := bnd_some hf
  split at hf
  · rename_i hi
    obtain ⟨ds, M2, h2, hf⟩ := bnd_some hf
    cases h2
    split at hf
    · rename_i hn
      refine PySem.W.methodCall_KW (pl := pl) (thn (ho.run pins s σ H (fun v H1 => ∃ ρ1, Ext X.K ρ H ρ1 H1 ∧ Rl X.K ct ρ1 _ H1 ∧ DV X.K ρ1 H1 y v) I ⟨ρ, M, env, r, hen, y, _, h1, fun ρ1 H1 e1 r1 v dv => ⟨ρ1, e1, r1, dv⟩⟩) fun u s1 z => ?_) ht
      obtain ⟨v, H1, I1, rv, ρ1, e1, r1, dv⟩ := z
      obtain ⟨a, dx, vfs, rfl, a3, a4⟩ := isIns_ok r1 dv hc hi
      obtain rfl : u = Value.ref a := rv
      refine getmeth_ok I1 a3 cl hm a4 ?_
      exact PySem.W.callWith_K0 (first := [.ref a]) I1.kIn hm.kp (run_fnG (us := [.ref a]) (us' := [.ref a]) G hr hgd I1 (by
        have := hb s1 [.ref a] I1.kIn (by simpa using hn)
        rwa [List.append_nil] at this) (.cons (a := V.ref a) rfl .nil) (spF_use hn e1 r1 (.cons dv .nil) hf hq))
    · cases hf
  · cases hf
/-- C(e, ..) -/
def fMake (c : Nat) (np : Nat) (F : FF) (fr : FA) : FE := fun env M => bnd (fr env M) fun ds M1 => if ds.length + 1 = np then bnd (F (.loc M1.length :: ds) (M1 ++ [.ins c []])) fun d M2 => match d with
    | .non => some (.loc M1.length, M2)
    | _ => none
  else none
theorem se_make (M0 : Mk X.K C f) (hc : ct c = some C) (G : SF X ct k f fd ps F) (hr : Room (k + 1) X.A) (hgd : X.A.guards = some []) (hg : Gl X x) (hm : X.mg x = some (.ref C)) (hb : Binds X.K fd ps []) (ha : SA X ct (e :: es) fr)
    (hdb : (x == ("__debug__" : Str)) = false := by decide) (he : starEach (e :: es) X.env = (false, eval e X.env) :: starEach es X.env := by rfl) (hpl : (backTo pos (starEach es X.env)).any (·.1) = false := by rfl) :
    SE X ct (.Call (.Name x p) (e :: es) [] pos) (fMake c ps.length F fr) := by
  refine ⟨fun pins s σ H Q I w => ?_⟩
  obtain ⟨ρ, M, env, r, hen, d, M', hf, hq⟩ := w
  obtain ⟨ds, M1, h1, hf⟩ := bnd_some hf
  split at hf
  · rename_i hn
    obtain ⟨d0, M2, h2, hf⟩ := bnd_some hf
    split at hf
    · cases hf
      refine wpAny_Call_Name_kw (ld_glob I hg hm ?_ hdb)
      refine PySem.W.callWith_K (h₀ := X.base) I.ok.mod.kin M0.kp (thn (ha.run pos pins s σ H (fun vs H1 => ∃ ρ1, Ext X.K ρ H ρ1 H1 ∧ Rl X.K ct ρ1 M1 H1 ∧ DVs X.K ρ1 H1 ds vs) I ⟨ρ, M, env, r, hen, ds, M1, h1, fun ρ1 H1 e1 r1 vs dvs => ⟨ρ1, e1, r1, dvs⟩⟩) fun us s1 z => ?_) he hpl
      obtain ⟨vs, H1, I1, rv, ρ1, e1, r1, dvs⟩ := z
      refine ⟨I1.kIn, ?_⟩
      have n1 : H1 s1.heap.objs.size = none := I1.hok.fresh (Nat.le_refl _)
      have n2 : H1 (s1.heap.objs.size + 1) = none := I1.hok.fresh (Nat.le_succ _)
      have ne : s1.heap.objs.size + 1 ≠ s1.heap.objs.size := Nat.succ_ne_self _
      have I2 := Inv.made (C := C) I1
      have rA := r1.tup n1 (.own (s1.heap.objs.size + 1))
      have n3 : upd H1 s1.heap.objs.size (.own (s1.heap.objs.size + 1)) (s1.heap.objs.size + 1) = none := by rw [upd_ne ne]; exact n2
      obtain ⟨rB, xB, aB⟩ := rA.new (o := .ins c []) (o' := .ins C s1.heap.objs.size []) n3 ⟨C, _, [], hc, upd_same, FV.nil⟩
      have xx := (Ext.fresh n1).trans xB
      have D2 : DVs X.K (ρ1 ++ [s1.heap.objs.size + 1]) _ (.loc M1.length :: ds) (.ref (s1.heap.objs.size + 1) :: vs) := .cons (.loc aB) (dvs.mono xx)
      have len2 : (Value.ref (s1.heap.objs.size + 1) :: us).length = ps.length := by rw [← hn, dvs.length, ← rv.length.symm]; rfl
      have bt := hb { s1 with heap := (s1.heap.push PySem.W.emptyDict).push (PySem.W.instObj C s1.heap.objs.size) } (.ref (s1.heap.objs.size + 1) :: us) I2.kIn (by rw [List.append_nil]; exact len2)
      rw [List.append_nil] at bt
      refine wpAny_call (make_map (f := f) I1.kIn M0.makes M0.init (beq_iff_eq.mp M0.fn) (codeAny_mono (G.run _ X.stack _ _ ⟨.ref (s1.heap.objs.size + 1) :: us, []⟩ (.ref (s1.heap.objs.size + 1) :: us) (.ref (s1.heap.objs.size + 1) :: vs) (fun v H2 => v = .non ∧ Q (.ref (s1.heap.objs.size + 1)) H2) E0 (hr.make C us [])
        hgd (I2.env0.make C us []) bt (.cons rfl rv) ?_) fun z s' hz => ?_))
      · refine ⟨by rw [← D2.length]; exact hn, _, _, _, rB, D2, _, _, h2, fun ρ3 H3 e3 r3 v hv => ?_⟩
        cases hv
        exact ⟨rfl, hq ρ3 H3 ((e1.trans xx).trans e3) r3 _ (.loc (e3.pre _ _ aB))⟩
      · match z, hz with
        | .ok (.ret u), hz =>
          obtain ⟨v, H', I3, rv3, ev, q3⟩ := I2.after hz
          subst ev
          exact ⟨rv3, ⟨V.ref (s1.heap.objs.size + 1), H', I3, rfl, q3⟩⟩
    · cases hf
  · cases hf
end
end Zl

/-! text Z10 -/
namespace Zl
open PySem L2 PySem.Spec PyProof.Rows

/-- the script, all ints -/
theorem dvs_ints {K : Frg} {ρ : List Addr} {H : Hp} : ∀ ns : List Int, DVs K ρ H (ns.map Dv.int) (ns.map V.int)
  | [] => .nil
  | n :: r => .cons (.int n) (dvs_ints r)
/-- the law's call from the def's mirror -/
theorem law_end {P : Program} {w : World} {K : Frg} {mg mb : Str → Option Value} {ct : Ct} {k : Nat} {fa a : Addr} {fd : FuncData} {x : Str} {F : FF} {s₁ : Shared} {us : List Value} {ns : List Int}
    (KX : K.In s₁.heap) (hns : s₁.heap.Ns mainGlobals mg) (hb : s₁.heap.Ns builtinsNs mb) (hbb : ∀ x : Str, x ≠ "__name__" → mb x = bootBuiltins x) (hlim : s₁.heap.NoLimit) (hg : s₁.gens = #[])
    (ha : s₁.heap.get? a = some { cls := .type "list", data := .seq us.toArray }) (hi : IntsAre us ns) (hl : ns.length ≤ sizeLine) (hr : Room k callerA)
    (G : ∀ base : Heap, K.In base → base.Ns mainGlobals mg → FnG P w K mg base k fa fd [x] (spF K ct F 1)) (hbind : ∀ (s : Shared) (u : Value), BindsTo s fd ⟨[u], []⟩ [(x, u)])
    (hF : ∃ M', F [.rol (ns.map Dv.int)] [] = some (.bl true, M')) :
    codeAny (model P w) callerA (.call (.ref fa) ⟨[.ref a], []⟩) (fun r s' => r = .ok (.ret (.bool true)) ∧ OldK s₁.heap s'.heap ∧ s'.os = s₁.os ∧ AllBare s'.gens) s₁ := by
  obtain ⟨M', hF⟩ := hF
  have rv : Vals (ns.map V.int) us := vals_of_ints hi
  have lenV : ns.length = us.length := by simpa using rv.length
  -- from an abstract heap that holds the script at most, locked
  have core : ∀ H : Hp, (∀ b u, H b = some u → b = a ∧ u = .frz { cls := .type "list", data := .seq us.toArray } (.lst (ns.map V.int)) ∧ K.lookup a = none) → SqF K H a (ns.map V.int) →
      codeAny (model P w) callerA (.call (.ref fa) ⟨[.ref a], []⟩) (fun r s' => r = .ok (.ret (.bool true)) ∧ OldK s₁.heap s'.heap ∧ s'.os = s₁.os ∧ AllBare s'.gens) s₁ := by
    intro H hH hS
    have hok : HOk P w H s₁.heap := fun b u e => by
      obtain ⟨rfl, rfl, _⟩ := hH b u e
      exact ⟨ha, by rw [List.length_map]; exact hl, us, _, rv, ha⟩
    have hide : ∀ {b : Addr} {o : Obj} {es : Array DictEntry} {ep : Nat}, s₁.heap.get? b = some o → o.data = .dict es ep → (hidT s₁.heap H).get? b = some o := fun {b o es ep} e d => by
      refine hidT_get e ?_
      cases q : H b with
      | none => rfl
      | some u =>
        obtain ⟨rfl, _, _⟩ := hH b u q
        rw [ha] at e; cases e; cases d
    have nsK : ∀ {b : Addr} {m : Str → Option Value}, s₁.heap.Ns b m → (hidT s₁.heap H).Ns b m := fun ⟨o, es, ep, e, d, z⟩ => ⟨o, es, ep, hide e d, d, z⟩
    have kB : K.In (hidT s₁.heap H) := fun b o e => hidT_get (KX b o e) (by
      cases q : H b with
      | none => rfl
      | some u =>
        obtain ⟨rfl, _, z⟩ := hH b u q
        rw [z] at e; cases e)
    have e0 : Env0 P w K mg (hidT s₁.heap H) callerA [] s₁ H :=
      ⟨rfl, ⟨kB, nsK hns, ⟨mb, nsK hb, hbb⟩, let ⟨mc, h1, h2⟩ := hlim; ⟨mc, nsK h1, h2⟩⟩, fun b o e => of_hidT e, Nat.le_of_eq (hidT_size _ _), trivial, fun b hb => absurd (show b ∈ ([] : List Addr) from hb) (fun y => nomatch y), hok, AllBare.of_eq hg⟩
    have sp : spF K ct F 1 [.ref a] H (fun v _ => v = .bl true) E0 := ⟨rfl, [], [], _, ⟨rfl, List.nodup_nil, fun n o h => by simp at h⟩, .cons (.rol hS (dvs_ints ns)) .nil, _, _, hF, fun ρ' H' _ _ v hv => by cases hv; rfl⟩
    refine codeAny_mono ((G _ kB (nsK hns)).run callerA [] s₁ H ⟨[.ref a], []⟩ [.ref a] [.ref a] _ _ hr rfl e0 (hbind s₁ (.ref a)) (.cons rfl .nil) sp) fun z s' h => ?_
    match z, h with
    | .ok (.ret u), h =>
      obtain ⟨v, H', os, bare, un, hok', r', q⟩ := h
      have q' : v = .bl true := q
      subst q'
      obtain rfl : u = Value.bool true := r'
      refine ⟨rfl, OldK.of_keep fun b o e => ?_, os, bare⟩
      cases z : H b with
      | none => exact un.keep b o e z (fun y => absurd (show b ∈ ([] : List Addr) from y) (fun y => nomatch y)) (fun y => nomatch y)
      | some u =>
        obtain ⟨rfl, rfl, _⟩ := hH b u z
        rw [ha] at e
        rw [← e]
        exact (hok' _ _ (un.frzs _ _ _ z)).1
  cases hk : K.lookup a with
  | some o =>
    have e := KX a o hk
    rw [ha] at e
    cases e
    refine core (fun _ => none) (fun b u z => by cases z) (.inr ⟨fun H' => .inr ⟨_, us.toArray, _, hk, rfl, rfl, rfl, by rw [List.size_toArray, ← lenV]; exact hl, by simpa using rv⟩, _, hk, rfl⟩)
  | none =>
    refine core (fun b => if b = a then some (.frz { cls := .type "list", data := .seq us.toArray } (.lst (ns.map V.int))) else none) (fun b u z => ?_) (.inl ⟨_, if_pos rfl⟩)
    by_cases hb : b = a
    · rw [if_pos hb] at z; cases z
      exact ⟨hb, rfl, hk⟩
    · rw [if_neg hb] at z; cases z
/-- the goal that k_head leaves -/
theorem walk_end {l : PySem.W.OpenLaw} {k : Nat} {q : Program} {loose : List Str} {XP : (Str → Option Value) → Heap → Prop} {YP : World → Heap → Prop} {d : DefRec} {K : Params → Frg} {x : Str} {F : FF}
    (hn : l.most = some 63) (hdf : d.params.defaults = []) (hr : Room k callerA) (hY : ∀ (w : World) (h : Heap), YP w h → (K w.params).In h)
    (T : ∀ (w : World) (mg : Str → Option Value) (fa : Addr) (h : Heap), (K w.params).In h → h.Ns mainGlobals mg → mg d.name = some (.ref fa) →
      ∃ (ct : Ct) (fd : FuncData), (∀ (s : Shared) (u : Value), BindsTo s fd ⟨[u], []⟩ [(x, u)]) ∧ ∀ base : Heap, (K w.params).In base → base.Ns mainGlobals mg → FnG l.prog w (K w.params) mg base k fa fd [x] (spF (K w.params) ct F 1))
    (hF : ∀ ns : List Int, ns.length ≤ 63 → ∃ M', F [.rol (ns.map Dv.int)] [] = some (.bl true, M')) :
    PySem.W.WalkO q loose XP YP l.row.toRowW d [] (fun f vs => PySem.call f vs) := by
  refine Att.attach_call hn hdf fun w s₀ s₁ mg mb fa o pm cd doc a vs ns G Y ho hd hcd hmg hobj hints hlen hg => ?_
  have KX := hY w _ Y
  obtain ⟨ct, fd, hb, hG⟩ := T w mg fa _ KX G.T.g hmg
  exact law_end KX G.T.g G.T.b G.T.builtins G.T.nolimit hg hobj hints (Nat.le_trans hlen (by decide)) hr hG hb (hF ns hlen)
end Zl

/-! text Z11 -/
namespace Zl
open PySem L2 PySem.Spec PyProof.Rows
open AutoSeq1 (wpAny_loadPart')

/-! ## enumerate -/
theorem enumerate_newT (l : Addr) (items : Array Value) (n : Nat) (dct : Option Addr) (sl : Array (Option Value)) :
    Meets (Builtin.«enumerate.__new__» ⟨[.type "enumerate", .ref l], []⟩) (fun _ R s => s.heap.get? l = some { cls := .type "tuple", dict := dct, data := .seq items n, slots := sl } ∧
      R (.ok (.ret (.ref (s.heap.push { cls := .type "tuple_iterator", data := .fields #[.ref l, .int 0 0] }).objs.size)))
        { s with heap := (s.heap.push { cls := .type "tuple_iterator", data := .fields #[.ref l, .int 0 0] }).push { cls := .type "enumerate", data := .fields #[.none, .bool false, .ref s.heap.objs.size, rawInt 0, .none, .none] } }) :=
  .of_wp fun prog w A R s h => by
    obtain ⟨hp, g, d, tk, os⟩ := s
    obtain ⟨hl, h⟩ := h
    have hsub := sub_enumerate
    have hT : Heap.IsTuple (Shared.heap ⟨hp, g, d, tk, os⟩) l items := ⟨_, hl, rfl, n, rfl⟩
    wp_walk using wpAny_loadPart' hl
    refine wpAny_stack_any fun st => wpAny_pure ?_
    split
    · rename_i c _ _ _ _ _
      cases (c == Value.type "enumerate")
      · wp_walk using wpAny_loadPart' hl, wpAny_pyIter_tuple hT
        exact ⟨_, rfl, h⟩
      · wp_walk using wpAny_loadPart' hl, wpAny_pyIter_tuple hT
        exact ⟨_, rfl, h⟩
    · wp_walk using wpAny_loadPart' hl, wpAny_pyIter_tuple hT
      exact ⟨_, rfl, h⟩
theorem call_enumT {prog : Program} {w : World} {A : Around} {E : Value → Shared → Prop} {s : Shared} {l : Addr} {items : Array Value} {Q : Value → Shared → Prop} (hL : s.heap.IsTuple l items)
    (h : ∀ h', IsEnum h' (s.heap.objs.size + 1) s.heap.objs.size 0 .none → h'.IsTupleIter s.heap.objs.size l 0 → (∀ b o, s.heap.get? b = some o → h'.get? b = some o) → Q (.ref (s.heap.objs.size + 1)) { s with heap := h' }) :
    wpAny (model prog w) A (call (.type "enumerate") [.ref l]) Q E s := by
  obtain ⟨⟨c, dct, dt, sl⟩, hl, hc, n, hd⟩ := hL
  replace hc : c = .type "tuple" := hc
  replace hd : dt = .seq items n := hd
  subst hc hd
  refine callType_new F.called_enumerate (by decide) (F.typeCall_enumerate_1 _) (F.newCall_enumerate_1 _) (fun obj => F.args_object_init_2 obj _) F.entry_enumerate_new (enumerate_newT l items n dct sl) ⟨hl, ?_⟩
  have hz : (s.heap.push { cls := .type "tuple_iterator", data := .fields #[.ref l, .int 0 0] }).objs.size = s.heap.objs.size + 1 := Heap.size_push ..
  show _ ∧ _
  rw [hz]
  have he : IsEnum ((s.heap.push { cls := .type "tuple_iterator", data := .fields #[.ref l, .int 0 0] }).push
      { cls := .type "enumerate", data := .fields #[.none, .bool false, .ref s.heap.objs.size, rawInt 0, .none, .none] }) (s.heap.objs.size + 1) s.heap.objs.size 0 .none := by
    have q := Heap.get?_push_size (s.heap.push { cls := .type "tuple_iterator", data := .fields #[.ref l, .int 0 0] })
      (o := { cls := .type "enumerate", data := .fields #[.none, .bool false, .ref s.heap.objs.size, rawInt 0, .none, .none] }) rfl
    rwa [hz] at q
  exact ⟨⟨_, he, rfl⟩, h _ he ⟨_, Heap.get?_push_of_some _ (Heap.get?_push_size _ rfl), rfl, rfl⟩ fun b o x => Heap.get?_push_of_some _ (Heap.get?_push_of_some _ x)⟩
/-- the tuple at a, each item in a new pair -/
def IteT (K : Frg) (a : Addr) : It :=
  ⟨fun i H => ∃ (xs : List V) (x : V), SqT K H a xs ∧ xs[i]? = some x, fun i H v H' => ∃ T x, v = .ref T ∧ H T = none ∧ H' = upd H T (.tup [.int (i : Nat), x]) ∧ ∀ xs, SqT K H a xs → xs[i]? = some x, fun i H => ∃ xs : List V, SqT K H a xs ∧ xs.length = i⟩
theorem turn_enumT {P : Program} {w : World} {K : Frg} {elts : List Expr} {kk : Nat} {tpos : Pos} (a e it : Addr) (hai : a ≠ it) (hea : e ≠ a) :
    Turn P w K (.Tuple elts kk tpos) (IteT K a) [e, it] e (fun i h => (∃ old, IsEnum h e it ((i : Nat) : Int) old) ∧ h.IsTupleIter it a i ∧ e ≠ it) where
  mem := by simp
  obj := fun i h st b hb => by
    obtain ⟨⟨old, he⟩, ⟨o, ho, hc, hd⟩, _⟩ := st
    rcases (show b = e ∨ b = it by simpa using hb) with rfl | rfl
    · exact ⟨_, he, fun v q => nomatch q⟩
    · exact ⟨o, ho, fun v q => by rw [hd] at q; cases q⟩
  keep := fun i h h' st k => let ⟨⟨old, he⟩, hi, hne⟩ := st; ⟨⟨old, k e (by simp) _ he⟩, hi.at fun o q => k it (by simp) o q, hne⟩
  item := by
    intro X hP hw hK hc i pins s σ H E I hf st hg
    subst hP hw hK
    obtain ⟨⟨old, he⟩, hit, hne⟩ := st
    obtain ⟨xs, x, hq, hx⟩ := hg
    obtain ⟨its, rv, p, hz⟩ := I.tuple hq
    obtain ⟨u, hu, ru⟩ := rv.get hx
    have hil : i < its.toArray.size := by simpa using (List.getElem?_eq_some_iff.mp hu).1
    have hel : e < s.heap.objs.size := Heap.lt_size he
    have hitl : it < s.heap.objs.size := by obtain ⟨_, q, _⟩ := hit; exact Heap.lt_size q
    refine wpAny_pyNext_enum_itemD (Draws.tuple (A := X.A.in1) (I.ok.hd hc) it a hai its.toArray) he ⟨hit, p⟩ hil hne (by simp [hne, hea]) fun y h' tk hy ho st' hT hsz hk => ?_
    have ey : y = u := by
      have : its[i]? = some y := by simpa using hy
      rw [hu] at this; exact (Option.some.inj this).symm
    subst ey
    refine ⟨_, rfl, wpAny_letOwnedTupleGo_enum (s := { s with heap := h', toks := tk + 1 }) ho fun h'' he' sb => ?_⟩
    have hT2 : h''.get? s.heap.objs.size = some { cls := .type "tuple", data := .seq #[.int i tk, y] } := (sb.2 _ (Nat.ne_of_gt hel)).trans hT
    have new : ObjOk X.prog X.w (upd H s.heap.objs.size (.tup [.int (i : Nat), x])) h'' s.heap.objs.size (.tup [.int (i : Nat), x]) :=
      ⟨by show 2 ≤ sizeLine; decide, [.int i tk, y], .cons ⟨_, rfl⟩ (.cons ru .nil), ⟨_, hT2, rfl, _, rfl⟩⟩
    have I1 : Inv X pins σ (upd H s.heap.objs.size (.tup [.int (i : Nat), x])) { s with heap := h'', toks := tk + 1 } :=
      I.turnedNew (ch := [e, it]) (fun b ob hb q => (sb.2 b (fun z => hb (by simp [z]))).trans (hk b ob (fun z => hb (by simp [z])) (fun z => hb (by simp [z])) q)) hf (Nat.le_refl _) new
    refine ⟨V.ref s.heap.objs.size, _, I1, rfl, ⟨_, x, rfl, I.hok.fresh (Nat.le_refl _), rfl, fun ys hy => by rw [I.tuple_inj hy hq]; exact hx⟩, ⟨⟨y, by rw [Int.natCast_add]; exact he'⟩, st'.1.at fun o q => (sb.2 it (Ne.symm hne)).trans q, hne⟩, fun b hb => ?_⟩
    have hb' : b < s.heap.objs.size := by
      rcases (show b = e ∨ b = it by simpa using hb) with rfl | rfl
      · exact hel
      · exact hitl
    rw [upd_ne (Nat.ne_of_lt hb')]
    exact (hf b hb).1
  done := by
    intro X hP hw hK hc i pins s σ H E I hf st hg
    subst hP hw hK
    obtain ⟨⟨old, he⟩, hit, hne⟩ := st
    obtain ⟨xs, hq, hx⟩ := hg
    obtain ⟨its, rv, p, hz⟩ := I.tuple hq
    obtain ⟨f0, f1, f2, f3, f4, f5⟩ := hf it (by simp)
    have hl : its.toArray.size = i := by rw [List.size_toArray, ← rv.length, hx]
    subst hl
    exact wpAny_pyNext_enum_endD (Draws.tuple (A := X.A.in1) (I.ok.hd hc) it a hai its.toArray) he ⟨hit, p⟩ fun h' eb => ⟨rfl, I.turned (t' := s.toks) (fun b o hb q => eb b o hb q) f0 f1 f3 f4 f5⟩
  self := fun A i s Q E st h => let ⟨⟨_, he⟩, _⟩ := st; wpAny_pyIter_enum he h
section
variable {X : Cx} {ct : Ct} {e e2 o : Expr} {es : List Expr} {elts : List Expr} {kk : Nat} {p pos tpos apos cpos : Pos} {fe f2 fo : FE} {fr : FA}
theorem pi_enumT {ta : TE} (hg : Gl X "enumerate") (hm : X.mg "enumerate" = none) (ha : PE X e ta) (hs : starEach [e] X.env = [(false, eval e X.env)] := by rfl) :
    PI X (.Tuple elts kk tpos) (.Call (.Name "enumerate" p) [e] [] pos) (fun σ H R => ta σ H fun v H1 => ∃ a xs, v = .ref a ∧ SqT X.K H1 a xs ∧ R (IteT X.K a) H1) := by
  refine ⟨fun pins s σ H R I h => ?_⟩
  refine Call_ (ld_blt I hg hm boot_enumerate (PyProof.Rows.callWith_type1 (args_cons (thn (ha.run pins s σ H _ I h) fun u s1 z => args_nil ?_) hs) hs rfl))
  obtain ⟨v, H1, I1, rv, a, xs, rfl, hq, q⟩ := z
  cases rv
  obtain ⟨its, rv, p', hz⟩ := I1.tuple hq
  have hlt : a < s1.heap.objs.size := p'.lt
  refine call_enumT p' fun h' he hit hk => wpAny_pyIter_enum he ?_
  have I2 : Inv X pins σ H1 { s1 with heap := h' } := I1.kept (t' := s1.toks) hk
  refine ⟨s1.heap.objs.size + 1, [s1.heap.objs.size + 1, s1.heap.objs.size], _, _, H1, rfl, I2, turn_enumT a _ _ (Nat.ne_of_lt hlt) (fun z => absurd (z ▸ hlt : s1.heap.objs.size + 1 < s1.heap.objs.size) (by omega)), ⟨⟨.none, he⟩, hit, Nat.succ_ne_self _⟩, fun b hb => ?_, q⟩
  have hle : s1.heap.objs.size ≤ b := by
    rcases (show b = s1.heap.objs.size + 1 ∨ b = s1.heap.objs.size by simpa using hb) with rfl | rfl
    · exact Nat.le_succ _
    · exact Nat.le_refl _
  exact I1.fpOk hle (I1.hok.fresh hle)
def pairs (xs : List Dv) (i : Nat) : Option Dv := xs[i]?.map fun x => .pr [.int (i : Nat), x]
def srcE (M : Mem) : Dv → Option Src
  | .tup xs => some ⟨xs.length, fun i _ => if i ≤ xs.length then some (pairs xs i) else none⟩
  | .loc n => match M[n]? with
    | some (.lst xs) => some ⟨xs.length, fun i M => match M[n]? with
      | some (.lst xs) => some (pairs xs i)
      | _ => none⟩
    | _ => none
  | _ => none
def fEnum (f : FE) : FI := fun env M => bnd (f env M) fun d M1 => match srcE M1 d with
  | some s => some (s, M1)
  | none => none
theorem feeds_enumT {K : Frg} {ρ0 : List Addr} {H0 : Hp} {a : Addr} {xs : List Dv} {vs : List V} (hs : TupD K H0 a vs) (hd : DVs K ρ0 H0 xs vs) : Feeds K ct ρ0 H0 (IteT K a) (fun i _ => if i ≤ xs.length then some (pairs xs i) else none) := by
  intro i ρ M H x r
  dsimp only
  by_cases hi : i ≤ xs.length
  · rw [if_pos hi]
    unfold pairs
    cases q : xs[i]? with
    | none => exact ⟨vs, (hs.mono x).sq, by rw [← hd.length]; exact Nat.le_antisymm (List.getElem?_eq_none_iff.mp q) hi⟩
    | some d =>
      obtain ⟨v, h1, h2⟩ := hd.get q
      refine ⟨⟨vs, v, (hs.mono x).sq, h1⟩, fun y H' hy => ?_⟩
      obtain ⟨T, z, rfl, hT, rfl, hy⟩ := hy
      have := hy vs (hs.mono x).sq
      rw [h1] at this; cases this
      exact ⟨Ext.fresh hT, r.tup hT _, .pr (SqT.of upd_same) (.cons (.int _) (.cons ((h2.mono x).mono (Ext.fresh hT)) .nil))⟩
  · rw [if_neg hi]; trivial
theorem feeds_enumL {K : Frg} {ρ0 : List Addr} {H0 : Hp} {a : Addr} {n : Nat} (hn : ρ0[n]? = some a) : Feeds K ct ρ0 H0 (Ite K a) (fun i M => match M[n]? with
      | some (.lst xs) => some (pairs xs i)
      | _ => none) := by
  intro i ρ M H x r
  dsimp only
  cases hm : M[n]? with
  | none => trivial
  | some o =>
    cases o with
    | ins c fs => trivial
    | dct kvs => trivial
    | dcn kvs => trivial
    | st xs => trivial
    | sk xs => trivial
    | lck => trivial
    | lckN kvs => trivial
    | lst xs =>
      obtain ⟨b, vs, eb, b1, b2, b3⟩ := r.lst hm (.loc (x.pre n a hn))
      cases eb
      show (match some (pairs xs i) with | some (some d) => _ | some none => _ | none => _)
      unfold pairs
      cases q : xs[i]? with
      | none => exact ⟨vs, SqL.of b2, by rw [← b3.length]; exact List.getElem?_eq_none_iff.mp q⟩
      | some d =>
        obtain ⟨v, h1, h2⟩ := b3.get q
        refine ⟨⟨vs, v, SqL.of b2, h1⟩, fun y H' hy => ?_⟩
        obtain ⟨T, z, rfl, hT, rfl, hy⟩ := hy
        have := hy vs (SqL.of b2)
        rw [h1] at this; cases this
        exact ⟨Ext.fresh hT, r.tup hT _, .pr (SqT.of upd_same) (.cons (.int _) (.cons (h2.mono (Ext.fresh hT)) .nil))⟩
theorem si_enum (hg : Gl X "enumerate") (hm : X.mg "enumerate" = none) (h : SE X ct e fe) (hs : starEach [e] X.env = [(false, eval e X.env)] := by rfl) : SI X ct (.Tuple elts kk tpos) (.Call (.Name "enumerate" p) [e] [] pos) (fEnum fe) := by
  refine PI.imp (PI.or (pi_enum hg hm (sa_cons h sa_nil hs) hs) (pi_enumT hg hm h hs)) fun σ H R ⟨ρ, M, env, r, he, src, M', hf, hq⟩ => ?_
  obtain ⟨d, M1, h1, hf⟩ := bnd_some hf
  split at hf
  · rename_i s0 hs
    cases hf
    unfold srcE at hs
    split at hs
    · cases hs
      exact .inr ⟨ρ, M, env, r, he, _, _, h1, fun ρ1 H1 e1 r1 v dv => by
        cases dv with
        | tup hs hd => exact ⟨_, _, rfl, hs.sq, hq ρ1 H1 e1 r1 _ (feeds_enumT hs hd)⟩⟩
    · split at hs
      · rename_i hm
        cases hs
        refine .inl ⟨ρ, M, env, r, he, [_], _, by show bnd (fe env M) _ = _; rw [h1]; rfl, fun ρ1 H1 e1 r1 vs dvs => ?_⟩
        obtain ⟨v, rfl, dv⟩ := dvs_one dvs
        obtain ⟨a, ws, rfl, a1, a2, a3⟩ := r1.lst hm dv
        exact ⟨_, _, rfl, SqL.of a2, hq ρ1 H1 e1 r1 _ (feeds_enumL a1)⟩
      · cases hs
    · cases hs
  · cases hf
/-! ## tuple(range(..)), list(range(..)) -/
def rgD (a b : Int) : List Dv := (List.range (b - a).toNat).map fun i => .int (a + (i : Nat))
theorem dvs_rg {K : Frg} {ρ : List Addr} {H : Hp} (a b : Int) : DVs K ρ H (rgD a b) (rgV a b) := by
  unfold rgD rgV
  induction List.range (b - a).toNat with
  | nil => exact .nil
  | cons x r ih => exact .cons (.int _) ih
def rgOk (a b : Int) : Bool := decide (-(2 ^ 62) ≤ a ∧ a < 2 ^ 62 ∧ -(2 ^ 62) ≤ b ∧ b < 2 ^ 62 ∧ (b - a).toNat ≤ 2 ^ 24)
theorem rgOk_of {a b : Int} (h : rgOk a b = true) : RgOk a b := by
  have := of_decide_eq_true h
  exact this
/-- an expression that makes a range -/
abbrev FR := En → Mem → Option ((Int × Int) × Mem)
def tRz (K : Frg) (ct : Ct) (f : FR) : L2.St → Hp → (Int → Int → Hp → Prop) → Prop := fun σ H Q => ∃ ρ M env, Rl K ct ρ M H ∧ EnOk K ρ H env σ ∧ ∃ q M', f env M = some (q, M') ∧ Aft K ct ρ H M' fun _ H' => Q q.1 q.2 H'
abbrev SR (X : Cx) (ct : Ct) (e : Expr) (f : FR) : Prop := PRg X e (tRz X.K ct f)
def fRg1 (f : FE) : FR := fun env M => bnd (f env M) fun d M1 => match d with
  | .int n => some ((0, n), M1)
  | _ => none
def fRg2 (f g : FE) : FR := fun env M => bnd (f env M) fun d M1 => bnd (g env M1) fun d2 M2 => match d, d2 with
  | .int i, .int j => some ((i, j), M2)
  | _, _ => none
theorem sr_1 (hg : Gl X "range") (hm : X.mg "range" = none) (ha : SE X ct e fe) (na : starEach [e] X.env = (false, eval e X.env) :: starEach [] X.env := by rfl) : SR X ct (.Call (.Name "range" p) [e] [] pos) (fRg1 fe) := by
  intro pins s σ H Q I w
  refine prg_1 hg hm ha na pins s σ H Q I ?_
  obtain ⟨ρ, M, env, r, he, q, M', hf, hq⟩ := w
  obtain ⟨d, M1, h1, hf⟩ := bnd_some hf
  refine ⟨ρ, M, env, r, he, d, M1, h1, fun ρ1 H1 e1 r1 v dv => ?_⟩
  split at hf
  · cases hf; cases dv
    exact ⟨_, rfl, hq ρ1 H1 e1 r1⟩
  · cases hf
theorem sr_2 (hg : Gl X "range") (hm : X.mg "range" = none) (ha : SE X ct e fe) (hb : SE X ct e2 f2) (na : starEach [e, e2] X.env = (false, eval e X.env) :: starEach [e2] X.env := by rfl) (nb : starEach [e2] X.env = (false, eval e2 X.env) :: starEach [] X.env := by rfl) (hpl : (backTo pos (starEach [e2] X.env)).any (·.1) = false := by rfl) : SR X ct (.Call (.Name "range" p) [e, e2] [] pos) (fRg2 fe f2) := by
  intro pins s σ H Q I w
  refine prg_2 hg hm ha hb na nb hpl pins s σ H Q I ?_
  obtain ⟨ρ, M, env, r, he, q, M', hf, hq⟩ := w
  obtain ⟨d, M1, h1, hf⟩ := bnd_some hf
  obtain ⟨d2, M2, h2, hf⟩ := bnd_some hf
  refine ⟨ρ, M, env, r, he, d, M1, h1, fun ρ1 H1 e1 r1 v dv => ⟨ρ1, M1, env, r1, he.mono e1, d2, M2, h2, fun ρ2 H2 e2 r2 u du => ?_⟩⟩
  split at hf
  · cases hf; cases dv; cases du
    exact ⟨_, _, rfl, rfl, hq ρ2 H2 (e1.trans e2) r2⟩
  · cases hf
def fTupR (f : FR) : FE := fun env M => bnd (f env M) fun q M1 => if rgOk q.1 q.2 then some (.tup (rgD q.1 q.2), M1) else none
def fLstR (f : FR) : FE := fun env M => bnd (f env M) fun q M1 => if rgOk q.1 q.2 then some (.loc M1.length, M1 ++ [.lst (rgD q.1 q.2)]) else none
theorem pe_tupRF {te : L2.St → Hp → (Int → Int → Hp → Prop) → Prop} (hc : X.calm = true) (hg : Gl X "tuple") (hm : X.mg "tuple" = none) (he : PRg X e te) (na : starEach [e] X.env = (false, eval e X.env) :: starEach [] X.env := by rfl) :
    PE X (.Call (.Name "tuple" p) [e] [] pos) (fun σ H Q => te σ H fun a b H1 => RgOk a b ∧ ∀ q o, H1 q = none → o.dict = none → Q (.ref q) (upd H1 q (.frz o (.tup (rgV a b))))) := by
  refine ⟨fun pins s σ H Q I h => ?_⟩
  refine Call_ (ld_blt I hg hm boot_tuple (PyProof.Rows.callWith_type1 (args_cons (thn (he pins s σ H _ I h) fun x s1 z => args_nil ?_) na) na))
  obtain ⟨r, a, b, t, u, v, H1, rfl, hr, I1, ok, q⟩ := z
  obtain ⟨b1, b2, b3, b4, b5⟩ := ok
  refine call_tuple_range (n := (b - a).toNat) (I1.ok.hd hc) hr (small_one b1 b2 b3 b4) (rangeSize_nat a b) b5 fun h' tk acc hk hi => ?_
  have I2 : Inv X pins σ H1 { s1 with heap := h', toks := tk } := I1.kept hk
  have Z := layT (tk := tk) I2 (vals_rg hi) (by rw [rgV_length, sizeLine_eq]; omega)
  rw [Array.toArray_toList] at Z
  exact ⟨V.ref h'.objs.size, _, Z, rfl, q _ _ (I2.hok.fresh (Nat.le_refl _)) rfl⟩
theorem se_tupR {fq : FR} (hc : X.calm = true) (hg : Gl X "tuple") (hm : X.mg "tuple" = none) (he : SR X ct e fq) (na : starEach [e] X.env = (false, eval e X.env) :: starEach [] X.env := by rfl) : SE X ct (.Call (.Name "tuple" p) [e] [] pos) (fTupR fq) :=
  PE.imp (pe_tupRF hc hg hm he na) fun σ H Q ⟨ρ, M, env, r, hen, d, M', hf, hq⟩ => by
    obtain ⟨q, M1, h1, hf⟩ := bnd_some hf
    split at hf
    · rename_i hk
      cases hf
      exact ⟨ρ, M, env, r, hen, q, _, h1, fun ρ1 H1 e1 r1 => ⟨rgOk_of hk, fun p o hp ho => hq ρ1 _ (e1.trans (Ext.fresh hp)) (r1.tup hp _) _ (.tup (TupD.new ho) (dvs_rg _ _))⟩⟩
    · cases hf
theorem se_lstR {fq : FR} (hc : X.calm = true) (hg : Gl X "list") (hm : X.mg "list" = none) (he : SR X ct e fq) (na : starEach [e] X.env = (false, eval e X.env) :: starEach [] X.env := by rfl) : SE X ct (.Call (.Name "list" p) [e] [] pos) (fLstR fq) :=
  PE.imp (pe_listRg hc hg hm he na) fun σ H Q ⟨ρ, M, env, r, hen, d, M', hf, hq⟩ => by
    obtain ⟨q, M1, h1, hf⟩ := bnd_some hf
    split at hf
    · rename_i hk
      cases hf
      refine ⟨ρ, M, env, r, hen, q, _, h1, fun ρ1 H1 e1 r1 => ⟨rgOk_of hk, fun p hp => ?_⟩⟩
      obtain ⟨r2, e2, h2⟩ := r1.newL hp (dvs_rg q.1 q.2)
      exact hq _ _ (e1.trans e2) r2 _ (.loc h2)
    · cases hf
/-! ## two roads by what a value is -/
theorem PE.or {t t' : TE} (h : PE X e t) (h' : PE X e t') : PE X e (fun σ H Q => t σ H Q ∨ t' σ H Q) := ⟨fun pins s σ H Q I w => w.elim (h.run pins s σ H Q I) (h'.run pins s σ H Q I)⟩
theorem PG.or {t t' : TG} (h : PG X e t) (h' : PG X e t') : PG X e (fun v σ H Q => t v σ H Q ∨ t' v σ H Q) := ⟨fun pins s σ H v u Q I r w => w.elim (h.run pins s σ H v u Q I r) (h'.run pins s σ H v u Q I r)⟩
/-- f where it serves, else g -/
def fOr (f g : FE) : FE := fun env M => match f env M with
  | some y => some y
  | none => g env M
theorem se_or2 (h : SE X ct e fe) (h' : SE X ct e f2) : SE X ct e (fOr fe f2) :=
  PE.imp (PE.or h h') fun σ H Q ⟨ρ, M, env, r, he, d, M', hf, hq⟩ => by
    unfold fOr at hf
    split at hf
    · rename_i y hy
      cases hf
      exact .inl ⟨ρ, M, env, r, he, d, M', hy, hq⟩
    · exact .inr ⟨ρ, M, env, r, he, d, M', hf, hq⟩
def gOr (f g : FG) : FG := fun d env M => match f d env M with
  | some y => some y
  | none => g d env M
theorem sg_or2 {ws : List Nat} {f g : FG} (h : SG X ct ws e f) (h' : SG X ct ws e g) : SG X ct ws e (gOr f g) :=
  PG.imp (PG.or h h') fun v σ H Q ⟨ρ, M, env, d, r, he, dv, env', M', hf, hq⟩ => by
    unfold gOr at hf
    split at hf
    · rename_i y hy
      cases hf
      exact .inl ⟨ρ, M, env, d, r, he, dv, env', M', hy, hq⟩
    · exact .inr ⟨ρ, M, env, d, r, he, dv, env', M', hf, hq⟩
end
end Zl

/-! text Z12 -/
namespace Zl
open PySem L2 PySem.Spec PyProof.Rows
section
variable {X : Cx} {ct : Ct} {pos : Pos}
theorem sv_l {x : Str} (i : Nat) (hN : X.N[i]? = some x := by rfl) (hv : X.env.scope.names.lookup x = some .local := by exact rfl) (hd : (x == ("__debug__" : Str)) = false := by decide) (hcd : (x == ("__classdict__" : Str)) = false := by decide) : SE X ct (.Name x pos) (fV i) := se_var hN (.inl hv) hd hcd
theorem sv_c {x : Str} (i : Nat) (hN : X.N[i]? = some x := by rfl) (hv : X.env.scope.names.lookup x = some .cell := by exact rfl) (hd : (x == ("__debug__" : Str)) = false := by decide) (hcd : (x == ("__classdict__" : Str)) = false := by decide) : SE X ct (.Name x pos) (fV i) := se_var hN (.inr (.inl hv)) hd hcd
theorem sv_f {x : Str} (i : Nat) (hN : X.N[i]? = some x := by rfl) (hv : Vis X.env.scope x := by first | exact Or.inr (Or.inl rfl) | exact Or.inr (Or.inr rfl)) (hd : (x == ("__debug__" : Str)) = false := by decide) (hcd : (x == ("__classdict__" : Str)) = false := by decide) : SE X ct (.Name x pos) (fV i) := se_var hN hv hd hcd
theorem hu65 {k : Nat} {A : Around} (r : Room k A) : A.units + 65 < cLine := by have := r.un; omega
/-- a constant of the module -/
def GlobIs (K : Frg) (mg : Str → Option Value) (x : Str) (d : Dv) : Prop := ∃ (v : V) (u : Value), mg x = some u ∧ RelV v u ∧ ∀ ρ H, DV K ρ H d v
theorem se_globIs {x : Str} {d : Dv} (hg : Gl X x) (g : GlobIs X.K X.mg x d) (hd : (x == ("__debug__" : Str)) = false := by decide) : SE X ct (.Name x pos) (fK d) := by
  obtain ⟨v, u, h1, h2, h3⟩ := g
  exact se_glob hg h1 h2 h3 hd
def lcountD : FM
  | .loc n, [x], M => match M[n]? with
    | some (.lst ys) => if flatD x && ys.all flatD then some (.int (ys.countP fun y => eqF y x : Nat), M) else none
    | _ => none
  | _, _, _ => none
theorem sm_lcount : SM X ct "list.count" lcountD := by
  intro pins s σ H x xs v us Q I rx rxs w
  obtain ⟨ρ, M, d, ds, r, dx, dxs, z, M', hf, hq⟩ := w
  unfold lcountD at hf
  split at hf
  · split at hf
    · rename_i ys hm
      obtain ⟨a, vs, rfl, a1, a2, a3⟩ := r.lst hm dx
      obtain ⟨y, rfl, dy⟩ := dvs_one dxs
      obtain ⟨u, rfl, ru⟩ := vals1 rxs
      split at hf
      · rename_i hl
        rw [Bool.and_eq_true] at hl
        cases hf
        cases rx
        obtain ⟨ws, rw', ⟨⟨cls, dd, data, sl⟩, n, ho, hc, hc2, hd'⟩, hz⟩ := I.list (SqL.of a2)
        simp only at hc hc2 hd'
        subst hc hc2 hd'
        refine call_meets PySem.F.slot_list_count ⟨_, ho, rfl⟩ PySem.F.entry_list_count (PySem.F.args_list_count_2 _ _)
          (SeqAt.list_countAt _ ws.toArray n none sl u (eqU y)) ⟨ho, fun c hc => mem_eqAt ru (by rw [flat_of dy]; exact hl.1) rw' (by rw [flats_of a3]; exact hl.2) c (by simpa using hc), ?_⟩
        refine ⟨V.int (ws.countP (eqU y) : Nat), H, I.tok _, ⟨s.toks, rfl⟩, ?_⟩
        rw [count_eqU dy hl.1 a3 rw' hl.2]
        exact hq ρ H .refl r _ (.int _)
      · cases hf
    · cases hf
  · cases hf
end
end Zl

/-! text Z14 -/
namespace Zl
open PySem L2 PySem.Spec PyProof.Rows

/-! ## zip of two tuples, of two lists -/
def zipAt (xs ys : List Dv) (i : Nat) : Option Dv := match xs[i]?, ys[i]? with
  | some x, some y => some (.pr [x, y])
  | _, _ => none
def srcZ (M : Mem) : Dv → Dv → Option Src
  | .tup xs, .tup ys => some ⟨min xs.length ys.length, fun i _ => some (zipAt xs ys i)⟩
  | .loc m, .loc n => match M[m]?, M[n]? with
    | some (.lst xs), some (.lst ys) => some ⟨min xs.length ys.length, fun i M => match M[m]?, M[n]? with
      | some (.lst xs), some (.lst ys) => some (zipAt xs ys i)
      | _, _ => none⟩
    | _, _ => none
  | _, _ => none
def fZip (f g : FE) : FI := fun env M => bnd (f env M) fun d M1 => bnd (g env M1) fun e M2 => match srcZ M2 d e with
  | some s => some (s, M2)
  | none => none
section
variable {X : Cx} {ct : Ct} {e e2 : Expr} {elts : List Expr} {kk : Nat} {p pos tpos : Pos} {fe f2 : FE}
theorem feeds_zipT {K : Frg} {ρ0 : List Addr} {H0 : Hp} {a b : Addr} {xs ys : List Dv} {vs ws : List V} (hs : TupD K H0 a vs) (hd : DVs K ρ0 H0 xs vs) (hs' : TupD K H0 b ws) (hd' : DVs K ρ0 H0 ys ws) : Feeds K ct ρ0 H0 (RZ.ItzT K a b) (fun i _ => some (zipAt xs ys i)) := by
  intro i ρ M H x r
  dsimp only
  unfold zipAt
  cases q : xs[i]? with
  | none => exact ⟨vs, ws, (hs.mono x).sq, (hs'.mono x).sq, .inl (by rw [← hd.length]; exact List.getElem?_eq_none_iff.mp q)⟩
  | some d =>
    cases q' : ys[i]? with
    | none => exact ⟨vs, ws, (hs.mono x).sq, (hs'.mono x).sq, .inr (by rw [← hd'.length]; exact List.getElem?_eq_none_iff.mp q')⟩
    | some d' =>
      obtain ⟨v, h1, h2⟩ := hd.get q
      obtain ⟨v', h1', h2'⟩ := hd'.get q'
      refine ⟨⟨vs, ws, v, v', (hs.mono x).sq, (hs'.mono x).sq, h1, h1'⟩, fun y H' hy => ?_⟩
      obtain ⟨T, z, z', rfl, hT, rfl, hy, hy'⟩ := hy
      have e1 := hy vs (hs.mono x).sq
      rw [h1] at e1; cases e1
      have e2 := hy' ws (hs'.mono x).sq
      rw [h1'] at e2; cases e2
      exact ⟨Ext.fresh hT, r.tup hT _, .pr (SqT.of upd_same) (.cons ((h2.mono x).mono (Ext.fresh hT)) (.cons ((h2'.mono x).mono (Ext.fresh hT)) .nil))⟩
theorem feeds_zipL {K : Frg} {ρ0 : List Addr} {H0 : Hp} {a b : Addr} {m n : Nat} (hm : ρ0[m]? = some a) (hn : ρ0[n]? = some b) : Feeds K ct ρ0 H0 (Itz K a b) (fun i M => match M[m]?, M[n]? with
      | some (.lst xs), some (.lst ys) => some (zipAt xs ys i)
      | _, _ => none) := by
  intro i ρ M H x r
  dsimp only
  cases h1 : M[m]? with
  | none => trivial
  | some o =>
    cases o with
    | ins c fs => trivial
    | dct kvs => trivial
    | dcn kvs => trivial
    | st xs => trivial
    | sk xs => trivial
    | lck => trivial
    | lckN kvs => trivial
    | lst xs =>
      cases h2 : M[n]? with
      | none => trivial
      | some o2 =>
        cases o2 with
        | ins c fs => trivial
        | dct kvs => trivial
        | dcn kvs => trivial
        | st xs => trivial
        | sk xs => trivial
        | lck => trivial
        | lckN kvs => trivial
        | lst ys =>
          obtain ⟨a', vs, ea, a1, a2, a3⟩ := r.lst h1 (.loc (x.pre m a hm))
          cases ea
          obtain ⟨b', ws, eb, b1, b2, b3⟩ := r.lst h2 (.loc (x.pre n b hn))
          cases eb
          show (match some (zipAt xs ys i) with | some (some d) => _ | some none => _ | none => _)
          unfold zipAt
          cases q : xs[i]? with
          | none => exact ⟨vs, ws, SqL.of a2, SqL.of b2, .inl (by rw [← a3.length]; exact List.getElem?_eq_none_iff.mp q)⟩
          | some d =>
            cases q' : ys[i]? with
            | none => exact ⟨vs, ws, SqL.of a2, SqL.of b2, .inr (by rw [← b3.length]; exact List.getElem?_eq_none_iff.mp q')⟩
            | some d' =>
              obtain ⟨v, g1, g2⟩ := a3.get q
              obtain ⟨v', g1', g2'⟩ := b3.get q'
              refine ⟨⟨vs, ws, v, v', SqL.of a2, SqL.of b2, g1, g1'⟩, fun y H' hy => ?_⟩
              obtain ⟨T, z, z', rfl, hT, rfl, hy, hy'⟩ := hy
              have e1 := hy vs (SqL.of a2)
              rw [g1] at e1; cases e1
              have e2 := hy' ws (SqL.of b2)
              rw [g1'] at e2; cases e2
              exact ⟨Ext.fresh hT, r.tup hT _, .pr (SqT.of upd_same) (.cons (g2.mono (Ext.fresh hT)) (.cons (g2'.mono (Ext.fresh hT)) .nil))⟩
theorem si_zip (hg : Gl X "zip") (hm : X.mg "zip" = none) (h : SE X ct e fe) (h2 : SE X ct e2 f2) (hs1 : starEach [e, e2] X.env = (false, eval e X.env) :: starEach [e2] X.env := by rfl) (hs2 : starEach [e2] X.env = [(false, eval e2 X.env)] := by rfl)
    (hpl : (backTo pos (starEach [e2] X.env)).any (·.1) = false := by rfl) : SI X ct (.Tuple elts kk tpos) (.Call (.Name "zip" p) [e, e2] [] pos) (fZip fe f2) := by
  refine PI.imp (RZ.pi_zipA hg hm (sa_cons h (sa_cons h2 sa_nil hs2) hs1) hs1 hpl) fun σ H R ⟨ρ, M, env, r, he, src, M', hf, hq⟩ => ?_
  obtain ⟨d, M1, h1, hf⟩ := bnd_some hf
  obtain ⟨d2, M2, h2, hf⟩ := bnd_some hf
  split at hf
  · rename_i s0 hs
    cases hf
    refine ⟨ρ, M, env, r, he, [d, d2], M', by show bnd (fe env M) _ = _; rw [h1]; show bnd (bnd (f2 env M1) _) _ = _; rw [h2]; rfl, fun ρ1 H1 e1 r1 vs dvs => ?_⟩
    obtain ⟨u, u', rfl, q1, q2⟩ := dvs_two dvs
    unfold srcZ at hs
    split at hs
    · cases hs
      cases q1 with
      | tup hs1 hd1 =>
        cases q2 with
        | tup hs2 hd2 => exact ⟨_, _, _, _, rfl, .inr ⟨hs1.sq, hs2.sq, hq ρ1 H1 e1 r1 _ (feeds_zipT hs1 hd1 hs2 hd2)⟩⟩
    · split at hs
      · rename_i g1 g2
        cases hs
        obtain ⟨a, ws, rfl, a1, a2, a3⟩ := r1.lst g1 q1
        obtain ⟨b, ws2, rfl, b1, b2, b3⟩ := r1.lst g2 q2
        exact ⟨_, _, _, _, rfl, .inl ⟨SqL.of a2, SqL.of b2, hq ρ1 H1 e1 r1 _ (feeds_zipL a1 b1)⟩⟩
      · cases hs
    · cases hs
  · cases hf
end
end Zl

/-! text Z15 -/
namespace Zl
open PySem L2 PySem.Spec PyProof.Rows
section
variable {X : Cx} {ct : Ct}
/-- repr of flat values, too -/
def reprE : List Dv → Mem → Rz
  | [.bl b], M => some (.str (if b then "True" else "False"), M)
  | [.non], M => some (.str "None", M)
  | [.str x], M => if (reprText x).length ≤ sizeLine then some (.str (reprText x), M) else none
  | ds, M => reprD ds M
theorem sc_reprE (hg : X.A.guards = some []) (hu : X.A.units + 64 < cLine) : SC X ct (.builtin "repr") reprE := by
  intro pins s σ H xs us Q I rv h
  obtain ⟨ρ, M, ds, r, dv, z, M', hf, hq⟩ := h
  unfold reprE at hf
  split at hf
  · cases hf
    obtain ⟨v, rfl, d1⟩ := dvs_one dv
    cases d1
    obtain ⟨u, rfl, ru⟩ := vals1 rv
    cases ru
    exact PySem.P.repr_of_bool ⟨.str _, H, I.tok _, ⟨_, rfl⟩, hq ρ H .refl r _ (.str _)⟩
  · cases hf
    obtain ⟨v, rfl, d1⟩ := dvs_one dv
    cases d1
    obtain ⟨u, rfl, ru⟩ := vals1 rv
    cases ru
    exact PySem.P.repr_of_none ⟨.str _, H, I.tok _, ⟨_, rfl⟩, hq ρ H .refl r _ (.str _)⟩
  · split at hf
    · rename_i hl
      cases hf
      obtain ⟨v, rfl, d1⟩ := dvs_one dv
      cases d1
      obtain ⟨u, rfl, t, rfl⟩ := vals1 rv
      exact PySem.P.repr_of_str ⟨.str _, H, I.tok _, ⟨_, rfl⟩, hq ρ H .refl r _ (.str _)⟩ hl
    · cases hf
  · exact sc_repr hg hu pins s σ H xs us Q I rv ⟨ρ, M, ds, r, dv, z, M', hf, hq⟩
/-- is None, is True, is False -/
def isE (neg : Bool) : Dv → Dv → Mem → Rz
  | .bl a, .bl b, M => some (.bl (xor neg (decide (a = b))), M)
  | d, e, M => isD neg d e M
theorem so_isE : SO X ct (compareOp .Is) (isE false) := by
  intro pins s σ H x y v u Q I rx ry h
  obtain ⟨ρ, M, d, e, r, dx, dy, z, M', hf, hq⟩ := h
  unfold isE at hf
  split at hf
  · cases hf; cases dx; cases dy
    exact op_isBl pins s σ H _ _ v u Q I rx ry ⟨_, _, rfl, rfl, hq ρ H .refl r _ (by rw [Bool.false_xor]; exact .bl _)⟩
  · exact so_is pins s σ H x y v u Q I rx ry ⟨ρ, M, _, _, r, dx, dy, z, M', hf, hq⟩
theorem so_isnotE : SO X ct (compareOp .IsNot) (isE true) := by
  intro pins s σ H x y v u Q I rx ry h
  obtain ⟨ρ, M, d, e, r, dx, dy, z, M', hf, hq⟩ := h
  unfold isE at hf
  split at hf
  · cases hf; cases dx; cases dy
    exact op_notBl pins s σ H _ _ v u Q I rx ry ⟨_, _, rfl, rfl, hq ρ H .refl r _ (by rw [Bool.true_xor]; exact .bl _)⟩
  · exact so_isnot pins s σ H x y v u Q I rx ry ⟨ρ, M, _, _, r, dx, dy, z, M', hf, hq⟩
end
end Zl

/-! text Z16 -/
namespace Zl
open PySem L2 PySem.Spec PyProof.Rows
section
variable {X : Cx} {ct : Ct}
def signsD (x : Str) : List Dv := x.cps.toList.map fun c => .str ⟨#[c]⟩
def signsV (x : Str) : List V := x.cps.toList.map fun c => .str ⟨#[c]⟩
theorem dvs_signs {K : Frg} {ρ : List Addr} {H : Hp} : ∀ cs : List Nat, DVs K ρ H (cs.map fun c => Dv.str ⟨#[c]⟩) (cs.map fun c => V.str ⟨#[c]⟩)
  | [] => .nil
  | c :: cs => .cons (.str _) (dvs_signs cs)
/-- list(text), too -/
def lstE : List Dv → Mem → Rz
  | [.str x], M => if x.cps.size ≤ sizeLine then some (.loc M.length, M ++ [.lst (signsD x)]) else none
  | ds, M => lstD ds M
theorem sc_listE (hc : X.calm = true) : SC X ct (.type "list") lstE := by
  intro pins s σ H xs us Q I rv h
  obtain ⟨ρ, M, ds, r, dv, z, M', hf, hq⟩ := h
  unfold lstE at hf
  split at hf
  · rename_i a0 b0 x
    split at hf
    · rename_i hl
      cases hf
      obtain ⟨v, rfl, d1⟩ := dvs_one dv
      cases d1
      obtain ⟨u, rfl, t, rfl⟩ := vals1 rv
      refine call_list_str (I.ok.hd hc) x t (fun h' tk acc' c' hkeep hS hacc => ?_) hl
      obtain ⟨r2, e2, h2⟩ := r.newL (I.hok.fresh (Nat.le_refl s.heap.objs.size)) (dvs_signs (K := X.K) (ρ := ρ) (H := H) x.cps.toList)
      refine ⟨.ref s.heap.objs.size, upd H s.heap.objs.size (.lst (signsV x)), I.laid hkeep (Nat.le_refl _) (show ObjOk X.prog X.w _ _ _ (.lst (signsV x)) from ⟨?_, acc'.toList, c', ?_, ?_⟩), rfl, hq _ _ e2 r2 _ (.loc h2)⟩
      · unfold signsV; rw [List.length_map]; simpa using hl
      · have el : acc'.toList.length = acc'.size := by simp
        refine vals_of_at (by unfold signsV; rw [List.length_map, el, hacc.1]; simp) fun j y w h1 h2 => ?_
        have := hacc.2 j w (by rw [← Array.getElem?_toList]; exact h2)
        obtain ⟨c, t', hc', rfl⟩ := this
        unfold signsV at h1
        rw [List.getElem?_map, Array.getElem?_toList, hc'] at h1
        simp at h1
        subst h1
        exact ⟨t', rfl⟩
      · simpa using hS
    · cases hf
  · exact sc_list pins s σ H xs us Q I rv ⟨ρ, M, ds, r, dv, z, M', hf, hq⟩
end
end Zl

/-! text ZN -/
namespace Zl
open PySem L2 PySem.Spec PyProof.Rows

/-! ## dicts whose keys are nested tuples -/
def valN (kvs : List (NestedKey × Dv × Dv)) (k : NestedKey) : Option Dv := (kvs.find? fun kv => decide (kv.1 = k)).map (·.2.2)
def putN (kvs : List (NestedKey × Dv × Dv)) (k : NestedKey) (kd v : Dv) : List (NestedKey × Dv × Dv) :=
  if (valN kvs k).isSome then kvs.map (fun kv => if kv.1 = k then (kv.1, kv.2.1, v) else kv) else kvs ++ [(k, kd, v)]
section
variable {X : Cx} {ct : Ct} {ρ : List Addr} {H : Hp} {M : Mem} {pins : List (Addr × Obj)} {σ : L2.St} {s : Shared}
theorem nest_all {n : Nat} (I : L2.Inv X pins σ H s) (ih : ∀ {d : Dv} {v : V} {u : Value} {k : NestedKey}, DV X.K ρ H d v → RelV v u → nkN n d = some k → NestedIs s.heap k u ∧ k.depth ≤ n) :
    ∀ {ds : List Dv} {vs : List V} {us : List Value} {ks : List NestedKey}, DVs X.K ρ H ds vs → Vals vs us → nkL (nkN n) ds = some ks → NestedAll s.heap ks us ∧ NestedKey.depthAll ks ≤ n
  | [], _, _, ks, h, r, e => by
    cases h
    cases r
    cases e
    exact ⟨.nil, Nat.zero_le _⟩
  | d :: ds, _, _, ks, h, r, e => by
    cases h with
    | cons h1 h2 =>
      cases r with
      | cons r1 r2 =>
        unfold nkL at e
        split at e
        · rename_i k hk
          split at e
          · rename_i ks' hks
            cases e
            obtain ⟨a1, a2⟩ := ih h1 r1 hk
            obtain ⟨b1, b2⟩ := nest_all I ih h2 r2 hks
            exact ⟨.cons a1 b1, by unfold NestedKey.depthAll; exact Nat.max_le.mpr ⟨a2, b2⟩⟩
          · cases e
        · cases e
theorem nest_is (I : L2.Inv X pins σ H s) : ∀ (n : Nat) {d : Dv} {v : V} {u : Value} {k : NestedKey}, DV X.K ρ H d v → RelV v u → nkN n d = some k → NestedIs s.heap k u ∧ k.depth ≤ n := by
  intro n
  induction n with
  | zero =>
    intro d v u k h r e
    cases h with
    | non => cases e; cases r; exact ⟨.none, Nat.zero_le _⟩
    | bl b => cases e; cases r; exact ⟨.bool rfl, Nat.zero_le _⟩
    | int i => cases e; obtain ⟨t, rfl⟩ := r; exact ⟨.int _ _, Nat.zero_le _⟩
    | str x => cases e; obtain ⟨t, rfl⟩ := r; exact ⟨.text _ _, Nat.zero_le _⟩
    | _ => cases e
  | succ n ih =>
    intro d v u k h r e
    cases h with
    | non => cases e; cases r; exact ⟨.none, Nat.zero_le _⟩
    | bl b => cases e; cases r; exact ⟨.bool rfl, Nat.zero_le _⟩
    | int i => cases e; obtain ⟨t, rfl⟩ := r; exact ⟨.int _ _, Nat.zero_le _⟩
    | str x => cases e; obtain ⟨t, rfl⟩ := r; exact ⟨.text _ _, Nat.zero_le _⟩
    | tup hs hd =>
      unfold nkN at e
      split at e
      · rename_i ks hks
        cases e
        cases r
        obtain ⟨its, rv, ⟨o, ho, hc, m, hdt⟩, _⟩ := I.tuple hs.sq
        obtain ⟨a1, a2⟩ := nest_all I ih hd rv hks
        exact ⟨.tup ho hc hdt (by simpa using a1), by unfold NestedKey.depth; omega⟩
      · cases e
    | _ => cases e
/-- a tuple that is a key stands somewhere -/
theorem key_is (I : L2.Inv X pins σ H s) {d : Dv} {v : V} {u : Value} {k : NestedKey} (h : DV X.K ρ H d v) (r : RelV v u) (e : keyN d = some k) : ∃ b, v = .ref b ∧ u = .ref b ∧ (nestedKind X.prog X.w).is s.heap k b := by
  unfold keyN at e
  split at e
  · have z := nest_is I 8 h r e
    cases h with
    | tup hs hd =>
      cases r
      exact ⟨_, rfl, rfl, z⟩
  · cases h with
    | pr hs hd =>
      cases r
      unfold nkN at e
      split at e
      · rename_i ks hks
        cases e
        obtain ⟨its, rv, ⟨o, ho, hc, m, hdt⟩, _⟩ := I.tuple hs
        obtain ⟨a1, a2⟩ := nest_all I (fun h r e => nest_is I 7 h r e) hd rv hks
        exact ⟨_, rfl, rfl, .tup ho hc hdt (by simpa using a1), by unfold NestedKey.depth; omega⟩
      · cases e
  · cases e
theorem Rl.dcn {K : Frg} (r : Rl K ct ρ M H) {n : Nat} {kvs : List (NestedKey × Dv × Dv)} (hm : M[n]? = some (.dcn kvs)) {v : V} (hv : DV K ρ H (.loc n) v) :
    ∃ a xs vs, v = .ref a ∧ ρ[n]? = some a ∧ H a = some (NDic ct.prg ct.wd a xs) ∧ kvs.map (·.1) = xs.map (·.1) ∧ (∀ p ∈ kvs, keyN p.2.1 = some p.1) ∧
      DVs K ρ H (kvs.map (·.2.1)) (xs.map fun x => V.ref x.2.1) ∧ DVs K ρ H (kvs.map (·.2.2)) vs ∧ Vals vs (xs.map (·.2.2)) := by
  obtain ⟨a, h1, xs, vs, h2⟩ := r.ok n _ hm
  cases hv with
  | loc h => rw [h] at h1; cases h1; exact ⟨_, xs, vs, rfl, h, h2⟩
theorem keys_are (I : L2.Inv X pins σ H s) : ∀ {kvs : List (NestedKey × Dv × Dv)} {xs : List (NestedKey × Addr × Value)}, kvs.map (·.1) = xs.map (·.1) → (∀ p ∈ kvs, keyN p.2.1 = some p.1) → DVs X.K ρ H (kvs.map (·.2.1)) (xs.map fun x => V.ref x.2.1) →
    ∀ x ∈ xs, (nestedKind X.prog X.w).is s.heap x.1 x.2.1
  | [], [], _, _, _ => fun x hx => by simp at hx
  | [], _ :: _, e, _, _ => by cases e
  | _ :: _, [], e, _, _ => by cases e
  | p :: kvs, q :: xs, e, hk, h => by
    simp only [List.map_cons, List.cons.injEq] at e
    cases h with
    | cons h1 h2 =>
      intro x hx
      rcases List.mem_cons.mp hx with rfl | hx
      · obtain ⟨b, e1, e2, z⟩ := key_is I h1 (show RelV (.ref x.2.1) (.ref x.2.1) from rfl) (hk p (List.mem_cons_self ..))
        cases e1
        rw [← e.1]; exact z
      · exact keys_are I e.2 (fun y hy => hk y (List.mem_cons_of_mem _ hy)) h2 x hx
/-- the dict in the heap -/
theorem dn_of (I : L2.Inv X pins σ H s) (hp : ct.prg = X.prog) (hw : ct.wd = X.w) {a : Addr} {kvs : List (NestedKey × Dv × Dv)} {xs : List (NestedKey × Addr × Value)} (h : H a = some (NDic ct.prg ct.wd a xs)) (h1 : kvs.map (·.1) = xs.map (·.1))
    (h2 : ∀ p ∈ kvs, keyN p.2.1 = some p.1) (h3 : DVs X.K ρ H (kvs.map (·.2.1)) (xs.map fun x => V.ref x.2.1)) : s.heap.DictOfH (nestedKind X.prog X.w) a xs ∧ xs.length ≤ sizeLine ∧ (a == sysModules) = false := by
  rw [hp, hw] at h
  obtain ⟨o, es, ep, g1, g2, g3, g4, g5, g6, g7⟩ := (I.hok a _ h).1
  exact ⟨⟨o, es, ep, g1, g2, g3, g4, keys_are I h1 h2 h3, g5⟩, g6, g7⟩
theorem ndic_new {P : Program} {w : World} {h : Heap} {a : Addr} {xs : List (NestedKey × Addr × Value)} (d : h.DictOfH (nestedKind P w) a xs) (z : xs.length ≤ sizeLine) (hs : (a == sysModules) = false) : ObjOk P w H h a (NDic P w a xs) := by
  obtain ⟨o, es, ep, g1, g2, g3, g4, _, g5⟩ := d
  refine ⟨⟨o, es, ep, g1, g2, g3, g4, g5, z, hs⟩, ⟨o, g1⟩, fun h1 h2 p k => ?_⟩
  obtain ⟨o, es, ep, g1, r⟩ := p
  exact ⟨o, es, ep, k o g1, r⟩
/-- an empty dict is one with such keys, too -/
theorem dn_empty (I : L2.Inv X pins σ H s) {a : Addr} (h : H a = some (.dK [])) : s.heap.DictOfH (nestedKind X.prog X.w) a [] ∧ (a == sysModules) = false := by
  obtain ⟨_, hd, vs, r, dd⟩ := dk_of I.hok h
  cases r
  obtain ⟨o, es, ep, g1, g2, g3, g4, g5, g6⟩ := dd
  refine ⟨⟨o, es, ep, g1, g2, g3, ?_, fun x hx => by simp at hx, List.nodup_nil⟩, hd⟩
  cases hes : es.toList with
  | nil => rfl
  | cons e r =>
    rw [hes] at g5
    cases g5
theorem val_ofN {K : Frg} {k : NestedKey} : ∀ {kvs : List (NestedKey × Dv × Dv)} {xs : List (NestedKey × Addr × Value)} {vs : List V}, kvs.map (·.1) = xs.map (·.1) → DVs K ρ H (kvs.map (·.2.2)) vs → Vals vs (xs.map (·.2.2)) →
    (∀ d, valN kvs k = some d → ∃ p v, atKey xs k = some p ∧ DV K ρ H d v ∧ RelV v p.2) ∧ (valN kvs k = none → atKey xs k = none)
  | [], [], _, _, _, _ => ⟨fun d e => (by cases e), fun _ => rfl⟩
  | [], _ :: _, _, e, _, _ => by cases e
  | _ :: _, [], _, e, _, _ => by cases e
  | p :: kvs, q :: xs, _, e, h, r => by
    simp only [List.map_cons, List.cons.injEq] at e
    cases h with
    | cons h1 h2 =>
      cases r with
      | cons r1 r2 =>
        obtain ⟨i1, i2⟩ := val_ofN (k := k) e.2 h2 r2
        unfold valN atKey
        rw [List.find?_cons, List.find?_cons]
        by_cases z : p.1 = k
        · rw [decide_eq_true z, decide_eq_true (e.1 ▸ z)]
          exact ⟨fun d ed => ⟨_, _, rfl, by simp at ed; rw [← ed]; exact h1, r1⟩, fun ed => by simp at ed⟩
        · rw [decide_eq_false z, decide_eq_false (fun y => z (e.1.trans y))]
          exact ⟨i1, i2⟩
theorem some_ofN {K : Frg} {k : NestedKey} {kvs : List (NestedKey × Dv × Dv)} {xs : List (NestedKey × Addr × Value)} {vs : List V} (e : kvs.map (·.1) = xs.map (·.1)) (h : DVs K ρ H (kvs.map (·.2.2)) vs) (r : Vals vs (xs.map (·.2.2))) : (atKey xs k).isSome = (valN kvs k).isSome := by
  obtain ⟨i1, i2⟩ := val_ofN (k := k) e h r
  cases z : valN kvs k with
  | none => rw [i2 z]; rfl
  | some d => obtain ⟨p, v, e2, _⟩ := i1 d z; rw [e2]; rfl
theorem Vals.app {vs ws : List V} {us ts : List Value} (h : Vals vs us) (h' : Vals ws ts) : Vals (vs ++ ws) (us ++ ts) := h.append h'
/-- the store -/
theorem map_putN {K : Frg} {k : NestedKey} {d : Dv} {v : V} {u : Value} (hd : DV K ρ H d v) (hu : RelV v u) : ∀ {kvs : List (NestedKey × Dv × Dv)} {xs : List (NestedKey × Addr × Value)} {vs : List V}, kvs.map (·.1) = xs.map (·.1) → DVs K ρ H (kvs.map (·.2.2)) vs → Vals vs (xs.map (·.2.2)) →
    ∃ ws, (kvs.map fun kv => if kv.1 = k then (kv.1, kv.2.1, d) else kv).map (·.1) = (xs.map (putAt k u)).map (·.1) ∧ (kvs.map fun kv => if kv.1 = k then (kv.1, kv.2.1, d) else kv).map (·.2.1) = kvs.map (·.2.1) ∧
      ((xs.map (putAt k u)).map fun x => V.ref x.2.1) = (xs.map fun x => V.ref x.2.1) ∧ DVs K ρ H ((kvs.map fun kv => if kv.1 = k then (kv.1, kv.2.1, d) else kv).map (·.2.2)) ws ∧ Vals ws ((xs.map (putAt k u)).map (·.2.2))
  | [], [], _, _, h, r => by cases h; exact ⟨[], rfl, rfl, rfl, .nil, .nil⟩
  | [], _ :: _, _, e, _, _ => by cases e
  | _ :: _, [], _, e, _, _ => by cases e
  | p :: kvs, q :: xs, _, e, h, r => by
    simp only [List.map_cons, List.cons.injEq] at e
    cases h with
    | cons h1 h2 =>
      cases r with
      | cons r1 r2 =>
        rename_i v0 vs0
        obtain ⟨ws, i1, i2, i3, i4, i5⟩ := map_putN (k := k) hd hu e.2 h2 r2
        simp only [List.map_cons]
        by_cases z : p.1 = k
        · have z2 : q.1 = k := e.1 ▸ z
          refine ⟨v :: ws, ?_, ?_, ?_, ?_, ?_⟩
          · rw [if_pos z, i1]; unfold putAt; rw [if_pos z2, e.1]
          · rw [if_pos z, i2]
          · rw [i3]; unfold putAt; rw [if_pos z2]
          · rw [if_pos z]; exact .cons hd i4
          · unfold putAt; rw [if_pos z2]; exact .cons hu i5
        · have z2 : ¬ q.1 = k := fun y => z (e.1.trans y)
          refine ⟨v0 :: ws, ?_, ?_, ?_, ?_, ?_⟩
          · rw [if_neg z, i1]; unfold putAt; rw [if_neg z2, e.1]
          · rw [if_neg z, i2]
          · rw [i3]; unfold putAt; rw [if_neg z2]
          · rw [if_neg z]; exact .cons h1 i4
          · unfold putAt; rw [if_neg z2]; exact .cons r1 i5
theorem put_ofN {K : Frg} {k : NestedKey} {kd d : Dv} {b : Addr} {v : V} {u : Value} {kvs : List (NestedKey × Dv × Dv)} {xs : List (NestedKey × Addr × Value)} {vs : List V} (hk : keyN kd = some k) (hkd : DV K ρ H kd (.ref b)) (hd : DV K ρ H d v) (hu : RelV v u)
    (h1 : kvs.map (·.1) = xs.map (·.1)) (h2 : ∀ p ∈ kvs, keyN p.2.1 = some p.1) (h3 : DVs K ρ H (kvs.map (·.2.1)) (xs.map fun x => V.ref x.2.1)) (h4 : DVs K ρ H (kvs.map (·.2.2)) vs) (h5 : Vals vs (xs.map (·.2.2))) :
    ∃ ws, (putN kvs k kd d).map (·.1) = (storedH xs k b u).map (·.1) ∧ (∀ p ∈ putN kvs k kd d, keyN p.2.1 = some p.1) ∧ DVs K ρ H ((putN kvs k kd d).map (·.2.1)) ((storedH xs k b u).map fun x => V.ref x.2.1) ∧
      DVs K ρ H ((putN kvs k kd d).map (·.2.2)) ws ∧ Vals ws ((storedH xs k b u).map (·.2.2)) := by
  unfold putN storedH
  rw [some_ofN h1 h4 h5]
  cases z : (valN kvs k).isSome with
  | true =>
    rw [if_pos rfl, if_pos rfl]
    obtain ⟨ws, i1, i2, i3, i4, i5⟩ := map_putN (k := k) hd hu h1 h4 h5
    refine ⟨ws, i1, fun p hp => ?_, ?_, i4, i5⟩
    · obtain ⟨q, hq, rfl⟩ := List.mem_map.mp hp
      split
      · exact h2 q hq
      · exact h2 q hq
    · rw [i2, i3]; exact h3
  | false =>
    rw [if_neg (by decide), if_neg (by decide)]
    refine ⟨vs ++ [v], ?_, fun p hp => ?_, ?_, ?_, ?_⟩
    · rw [List.map_append, List.map_append, h1]; rfl
    · rcases List.mem_append.mp hp with y | y
      · exact h2 p y
      · rw [List.mem_singleton.mp y]; exact hk
    · rw [List.map_append, List.map_append]; exact h3.append (.cons hkd .nil)
    · rw [List.map_append]; exact h4.append (.cons hd .nil)
    · rw [List.map_append]; exact h5.append (.cons hu .nil)
end
end Zl

/-! text Z17 -/
namespace Zl
open PySem L2 PySem.Spec PyProof.Rows

/-! ## dicts whose keys are ints and texts -/
def keyD : Dv → Option Key
  | .int i => some (.inl i)
  | .str x => some (.inr x)
  | _ => none
def valD (kvs : List (Key × Dv)) (k : Key) : Option Dv := (kvs.find? fun kv => decide (kv.1 = k)).map (·.2)
def putDk (kvs : List (Key × Dv)) (k : Key) (v : Dv) : List (Key × Dv) :=
  if (kvs.any fun kv => decide (kv.1 = k)) = true then kvs.map (fun kv => if kv.1 = k then (kv.1, v) else kv) else kvs ++ [(k, v)]
section
variable {K : Frg} {ρ : List Addr} {H : Hp}
theorem keyD_of {d : Dv} {v : V} {k : Key} (h : DV K ρ H d v) (e : keyD d = some k) : v = kV k := by
  cases h <;> cases e <;> rfl
/-- what is found, what is not -/
theorem val_of {k : Key} : ∀ {kvs : List (Key × Dv)} {vs : List (Key × V)}, kvs.map (·.1) = vs.map (·.1) → DVs K ρ H (kvs.map (·.2)) (vs.map (·.2)) →
    (∀ d, valD kvs k = some d → ∃ v, valV vs k = some v ∧ DV K ρ H d v) ∧ (valD kvs k = none → valV vs k = none)
  | [], [], _, _ => ⟨fun d e => (by cases e), fun _ => rfl⟩
  | [], _ :: _, e, _ => by cases e
  | _ :: _, [], e, _ => by cases e
  | p :: kvs, q :: vs, e, h => by
    simp only [List.map_cons, List.cons.injEq] at e
    cases h with
    | cons h1 hr =>
      obtain ⟨i1, i2⟩ := val_of (k := k) e.2 hr
      unfold valD
      rw [List.find?_cons]
      by_cases z : p.1 = k
      · rw [decide_eq_true z]
        rw [valV_pos (e.1 ▸ z)]
        exact ⟨fun d ed => ⟨q.2, rfl, by simp at ed; rw [← ed]; exact h1⟩, fun ed => by simp at ed⟩
      · rw [decide_eq_false z]
        rw [valV_neg (fun y => z (e.1.trans y))]
        exact ⟨i1, i2⟩
theorem any_of_keys {k : Key} : ∀ {kvs : List (Key × Dv)} {vs : List (Key × V)}, kvs.map (·.1) = vs.map (·.1) → (kvs.any fun kv => decide (kv.1 = k)) = vs.any fun kv => decide (kv.1 = k)
  | [], [], _ => rfl
  | [], _ :: _, e => by cases e
  | _ :: _, [], e => by cases e
  | p :: kvs, q :: vs, e => by
    simp only [List.map_cons, List.cons.injEq] at e
    rw [List.any_cons, List.any_cons, any_of_keys e.2, e.1]
theorem map_put {k : Key} {x : Dv} {u : V} (hx : DV K ρ H x u) : ∀ {kvs : List (Key × Dv)} {vs : List (Key × V)}, kvs.map (·.1) = vs.map (·.1) → DVs K ρ H (kvs.map (·.2)) (vs.map (·.2)) →
    (kvs.map fun kv => if kv.1 = k then (kv.1, x) else kv).map (·.1) = (vs.map fun kv => if kv.1 = k then (kv.1, u) else kv).map (·.1) ∧
    DVs K ρ H ((kvs.map fun kv => if kv.1 = k then (kv.1, x) else kv).map (·.2)) ((vs.map fun kv => if kv.1 = k then (kv.1, u) else kv).map (·.2))
  | [], [], _, _ => ⟨rfl, .nil⟩
  | [], _ :: _, e, _ => by cases e
  | _ :: _, [], e, _ => by cases e
  | p :: kvs, q :: vs, e, h => by
    simp only [List.map_cons, List.cons.injEq] at e
    cases h with
    | cons h1 hr =>
      obtain ⟨i1, i2⟩ := map_put (k := k) hx e.2 hr
      simp only [List.map_cons, List.cons.injEq]
      by_cases z : p.1 = k
      · rw [if_pos z, if_pos (e.1 ▸ z)]
        exact ⟨⟨e.1, i1⟩, .cons hx i2⟩
      · rw [if_neg z, if_neg (fun y => z (e.1.trans y))]
        exact ⟨⟨e.1, i1⟩, .cons h1 i2⟩
theorem put_of {k : Key} {x : Dv} {u : V} {kvs : List (Key × Dv)} {vs : List (Key × V)} (hx : DV K ρ H x u) (e : kvs.map (·.1) = vs.map (·.1)) (h : DVs K ρ H (kvs.map (·.2)) (vs.map (·.2))) :
    (putDk kvs k x).map (·.1) = (putK vs k u).map (·.1) ∧ DVs K ρ H ((putDk kvs k x).map (·.2)) ((putK vs k u).map (·.2)) := by
  unfold putDk putK
  rw [any_of_keys e]
  split
  · exact map_put hx e h
  · rw [List.map_append, List.map_append, List.map_append, List.map_append, e]
    exact ⟨rfl, h.append (.cons hx .nil)⟩
theorem Rl.dct {ct : Ct} {M : Mem} (r : Rl K ct ρ M H) {n : Nat} {kvs : List (Key × Dv)} (hm : M[n]? = some (.dct kvs)) {v : V} (hv : DV K ρ H (.loc n) v) :
    ∃ a vs, v = .ref a ∧ ρ[n]? = some a ∧ H a = some (.dK vs) ∧ kvs.map (·.1) = vs.map (·.1) ∧ DVs K ρ H (kvs.map (·.2)) (vs.map (·.2)) := by
  obtain ⟨a, h1, vs, h2, h3, h4⟩ := r.ok n _ hm
  cases hv with
  | loc h => rw [h] at h1; cases h1; exact ⟨_, vs, rfl, h, h2, h3, h4⟩
end
theorem Rl.st {K : Frg} {ρ : List Addr} {H : Hp} {ct : Ct} {M : Mem} (r : Rl K ct ρ M H) {n : Nat} {xs : List Int} (hm : M[n]? = some (.st xs)) {v : V} (hv : DV K ρ H (.loc n) v) :
    ∃ a, v = .ref a ∧ ρ[n]? = some a ∧ H a = some (.set (fun k => xs.any (· == k)) xs.length) := by
  obtain ⟨a, h1, h2⟩ := r.ok n _ hm
  cases hv with
  | loc h => rw [h] at h1; cases h1; exact ⟨_, rfl, h, h2⟩
theorem Rl.sk {K : Frg} {ρ : List Addr} {H : Hp} {ct : Ct} {M : Mem} (r : Rl K ct ρ M H) {n : Nat} {xs : List Str} (hm : M[n]? = some (.sk xs)) {v : V} (hv : DV K ρ H (.loc n) v) :
    ∃ a, v = .ref a ∧ ρ[n]? = some a ∧ H a = some (SetK ct.prg ct.wd a (fun k => xs.any fun x => decide (k = Sum.inr x)) xs.length) := by
  obtain ⟨a, h1, h2⟩ := r.ok n _ hm
  cases hv with
  | loc h => rw [h] at h1; cases h1; exact ⟨_, rfl, h, h2⟩
section
variable {X : Cx} {ct : Ct} {pos : Pos} {e o i' : Expr} {fo fe fi : FE}
/-- {} -/
def fDNew : FE := fun _ M => some (.loc M.length, M ++ [.dct []])
theorem se_dnew : SE X ct (.Dict [] [] pos) fDNew := PE.imp pe_dnewK fun σ H Q ⟨ρ, M, env, r, he, d, M', hf, hq⟩ p hp => by
  cases hf
  obtain ⟨r2, e2, h2⟩ := r.new (o := .dct []) (o' := .dK []) hp ⟨[], upd_same, rfl, .nil⟩
  exact hq _ _ e2 r2 _ (.loc h2)
/-- k in d, too -/
def inE (neg : Bool) (x y : Dv) (M : Mem) : Rz := match y with
  | .loc n => match M[n]? with
    | some (.dct kvs) => match keyD x with
      | some k => some (.bl (xor neg (valD kvs k).isSome), M)
      | none => match kvs with
        | [] => match keyN x with
          | some _ => some (.bl (xor neg false), M)
          | none => none
        | _ => none
    | some (.dcn kvs) => match keyN x with
      | some k => some (.bl (xor neg (valN kvs k).isSome), M)
      | none => none
    | _ => inD neg x y M
  | _ => inD neg x y M
theorem room_n (hu : X.A.units + 65 < cLine) : (nestedKind X.prog X.w).room X.A.in1 := by
  show X.A.units + 1 + 8 < cLine
  omega
theorem dget_of {K : Frg} {ρ : List Addr} {H : Hp} {a : Addr} {kvs : List (Key × Dv)} {vs : List (Key × V)} {k : Key} (h2 : H a = some (.dK vs)) (h3 : kvs.map (·.1) = vs.map (·.1)) (h4 : DVs K ρ H (kvs.map (·.2)) (vs.map (·.2))) : (valV vs k).isSome = (valD kvs k).isSome := by
  obtain ⟨i1, i2⟩ := val_of (k := k) h3 h4
  cases e : valD kvs k with
  | none => rw [i2 e]; rfl
  | some d => obtain ⟨v, e2, _⟩ := i1 d e; rw [e2]; rfl
theorem so_inE (hu : X.A.units + 65 < cLine) (hp : ct.prg = X.prog := by rfl) (hw : ct.wd = X.w := by rfl) : SO X ct (compareOp .In) (inE false) := by
  intro pins s σ H x y v u Q I rx ry h
  obtain ⟨ρ, M, d, e, r, dx, dy, z, M', hf, hq⟩ := h
  have old : inD false d e M = some (z, M') → wpAny (model X.prog X.w) X.A (compareOp .In v u) (EP X pins σ Q) X.xe s := fun hf => so_in hu pins s σ H x y v u Q I rx ry ⟨ρ, M, d, e, r, dx, dy, z, M', hf, hq⟩
  unfold inE at hf
  split at hf
  · split at hf
    · rename_i kvs hm
      split at hf
      · rename_i k hk
        cases hf
        obtain ⟨a, vs, rfl, a1, a2, a3, a4⟩ := r.dct hm dy
        obtain rfl := keyD_of dx hk
        obtain rfl : u = Value.ref a := ry
        refine d_in (by omega) I (DGet.k a2) rx fun s' I' => ⟨.bl (valV vs k).isSome, H, I', rfl, hq ρ H .refl r _ ?_⟩
        rw [dget_of a2 a3 a4, Bool.false_xor]; exact .bl _
      · split at hf
        · split at hf
          · rename_i k hk
            cases hf
            obtain ⟨a, vs, rfl, a1, a2, a3, a4⟩ := r.dct hm dy
            have ev : vs = [] := List.length_eq_zero_iff.mp (by have := congrArg List.length a3; simpa using this.symm)
            subst ev
            obtain rfl : u = Value.ref a := ry
            obtain ⟨b, rfl, rfl, ki⟩ := key_is I dx rx hk
            obtain ⟨dd, ds⟩ := dn_empty I a2
            exact wpAny_in_heap (room_n hu) ki ds dd ⟨.bl false, H, I.tok _, rfl, hq ρ H .refl r _ (.bl _)⟩
          · cases hf
        · cases hf
    · rename_i kvs hm
      split at hf
      · rename_i k hk
        cases hf
        obtain ⟨a, xs, vs, rfl, a1, a2, a3, a4, a5, a6, a7⟩ := r.dcn hm dy
        obtain rfl : u = Value.ref a := ry
        obtain ⟨b, rfl, rfl, ki⟩ := key_is I dx rx hk
        obtain ⟨dd, _, ds⟩ := dn_of I hp hw a2 a3 a4 a5
        refine wpAny_in_heap (room_n hu) ki ds dd ⟨.bl (atKey xs k).isSome, H, I.tok _, rfl, hq ρ H .refl r _ ?_⟩
        rw [some_ofN a3 a6 a7, Bool.false_xor]; exact .bl _
      · cases hf
    · exact old hf
  · exact old hf
theorem so_notinE (hu : X.A.units + 65 < cLine) (hp : ct.prg = X.prog := by rfl) (hw : ct.wd = X.w := by rfl) : SO X ct (compareOp .NotIn) (inE true) := by
  intro pins s σ H x y v u Q I rx ry h
  obtain ⟨ρ, M, d, e, r, dx, dy, z, M', hf, hq⟩ := h
  have old : inD true d e M = some (z, M') → wpAny (model X.prog X.w) X.A (compareOp .NotIn v u) (EP X pins σ Q) X.xe s := fun hf => so_notin hu pins s σ H x y v u Q I rx ry ⟨ρ, M, d, e, r, dx, dy, z, M', hf, hq⟩
  unfold inE at hf
  split at hf
  · split at hf
    · rename_i kvs hm
      split at hf
      · rename_i k hk
        cases hf
        obtain ⟨a, vs, rfl, a1, a2, a3, a4⟩ := r.dct hm dy
        obtain rfl := keyD_of dx hk
        obtain rfl : u = Value.ref a := ry
        refine d_notIn (by omega) I (DGet.k a2) rx fun s' I' => ⟨.bl (!(valV vs k).isSome), H, I', rfl, hq ρ H .refl r _ ?_⟩
        rw [dget_of a2 a3 a4, Bool.true_xor]; exact .bl _
      · split at hf
        · split at hf
          · rename_i k hk
            cases hf
            obtain ⟨a, vs, rfl, a1, a2, a3, a4⟩ := r.dct hm dy
            have ev : vs = [] := List.length_eq_zero_iff.mp (by have := congrArg List.length a3; simpa using this.symm)
            subst ev
            obtain rfl : u = Value.ref a := ry
            obtain ⟨b, rfl, rfl, ki⟩ := key_is I dx rx hk
            obtain ⟨dd, ds⟩ := dn_empty I a2
            refine notIn_keyed (kvs := []) (room_n hu) ki ds ⟨[], dd, rfl⟩ ⟨.bl true, H, I.tok _, rfl, hq ρ H .refl r _ (.bl _)⟩
          · cases hf
        · cases hf
    · rename_i kvs hm
      split at hf
      · rename_i k hk
        cases hf
        obtain ⟨a, xs, vs, rfl, a1, a2, a3, a4, a5, a6, a7⟩ := r.dcn hm dy
        obtain rfl : u = Value.ref a := ry
        obtain ⟨b, rfl, rfl, ki⟩ := key_is I dx rx hk
        obtain ⟨dd, _, ds⟩ := dn_of I hp hw a2 a3 a4 a5
        refine notIn_keyed (room_n hu) ki ds ⟨xs, dd, rfl⟩ ⟨.bl (!(valueAt (pairsH xs) k).isSome), H, I.tok _, rfl, hq ρ H .refl r _ ?_⟩
        rw [valueAt_pairsH, Option.isSome_map, some_ofN a3 a6 a7, Bool.true_xor]; exact .bl _
      · cases hf
    · exact old hf
  · exact old hf
/-- d[k], too -/
def ixE (x y : Dv) (M : Mem) : Rz := match x with
  | .loc n => match M[n]? with
    | some (.dct kvs) => match keyD y with
      | some k => match valD kvs k with
        | some d => some (d, M)
        | none => none
      | none => none
    | some (.dcn kvs) => match keyN y with
      | some k => match valN kvs k with
        | some d => some (d, M)
        | none => none
      | none => none
    | _ => ixD x y M
  | _ => ixD x y M
theorem sx_E (hu : X.A.units + 65 < cLine) (hp : ct.prg = X.prog) (hw : ct.wd = X.w) : IxR X (tO X.K ct ixE) := by
  intro value slice pins s σ H x y v u Q I rx ry h hsub
  obtain ⟨ρ, M, d, e, r, dx, dy, z, M', hf, hq⟩ := h
  have old : ixD d e M = some (z, M') → wpAny (model X.prog X.w) X.A (subscriptTail value slice v u) (EP X pins σ Q) X.xe s := fun hf => sx_seq value slice pins s σ H x y v u Q I rx ry ⟨ρ, M, d, e, r, dx, dy, z, M', hf, hq⟩ hsub
  unfold ixE at hf
  split at hf
  · split at hf
    · rename_i kvs hm
      split at hf
      · rename_i k hk
        split at hf
        · rename_i d' hd
          cases hf
          obtain ⟨a, vs, rfl, a1, a2, a3, a4⟩ := r.dct hm dx
          obtain rfl := keyD_of dy hk
          obtain rfl : v = Value.ref a := rx
          obtain ⟨w, e2, dw⟩ := (val_of (k := k) a3 a4).1 _ hd
          have g : DGet H a (kV k) (some w) := e2 ▸ DGet.k a2
          exact tail_any (dict_typeIs I g) PySem.F.slot_dict_getitem.lookup (d_getItem (by omega) I g ry fun w' s' I' rw' => ⟨w, H, I', rw', hq ρ H .refl r _ dw⟩) hsub
        · cases hf
      · cases hf
    · rename_i kvs hm
      split at hf
      · rename_i k hk
        split at hf
        · rename_i d' hd
          cases hf
          obtain ⟨a, xs, vs, rfl, a1, a2, a3, a4, a5, a6, a7⟩ := r.dcn hm dx
          obtain rfl : v = Value.ref a := rx
          obtain ⟨b, rfl, rfl, ki⟩ := key_is I dy ry hk
          obtain ⟨dd, _, ds⟩ := dn_of I hp hw a2 a3 a4 a5
          obtain ⟨p, w, e2, dw, rw'⟩ := (val_ofN (k := k) a3 a6 a7).1 _ hd
          exact tail_any dd.typeIs PySem.F.slot_dict_getitem.lookup (wpAny_getItem_heap (room_n hu) ki dd e2 ⟨w, H, I.tok _, rw', hq ρ H .refl r _ dw⟩) hsub
        · cases hf
      · cases hf
    · exact old hf
  · exact old hf
theorem se_ixE {a b : Expr} {fa fb : FE} (hu : X.A.units + 65 < cLine) (ha : SE X ct a fa) (hb : SE X ct b fb) (hs : PlainIx b := by intro _ _; rfl) (hp : ct.prg = X.prog := by rfl) (hw : ct.wd = X.w := by rfl) : SE X ct (.Subscript a b pos) (fO ixE fa fb) :=
  PE.imp (pe_ix (sx_E hu hp hw) ha hb hs) fun _ _ _ w => op_imp w
/-- len(d), too -/
def lenE : List Dv → Mem → Rz
  | [.loc n], M => match M[n]? with
    | some (.dct kvs) => some (.int (kvs.length : Nat), M)
    | some (.dcn kvs) => some (.int (kvs.length : Nat), M)
    | some (.st xs) => some (.int (xs.length : Nat), M)
    | some (.sk xs) => some (.int (xs.length : Nat), M)
    | _ => lenD [.loc n] M
  | ds, M => lenD ds M
theorem sc_lenE : SC X ct (.builtin "len") lenE := by
  intro pins s σ H xs us Q I rv h
  obtain ⟨ρ, M, ds, r, dv, z, M', hf, hq⟩ := h
  unfold lenE at hf
  split at hf
  · split at hf
    · rename_i kvs hm
      cases hf
      obtain ⟨v, rfl, d1⟩ := dvs_one dv
      obtain ⟨a, vs, rfl, a1, a2, a3, a4⟩ := r.dct hm d1
      refine call_lenD pins s σ H _ us Q I rv ⟨a, vs, rfl, a2, hq ρ H .refl r _ ?_⟩
      have : kvs.length = vs.length := by have := congrArg List.length a3; simpa using this
      rw [this]; exact .int _
    · rename_i kvs hm
      cases hf
      obtain ⟨v, rfl, d1⟩ := dvs_one dv
      obtain ⟨a, xs, vs, rfl, a1, a2, a3, a4⟩ := r.dcn hm d1
      obtain ⟨u, rfl, ru⟩ := vals1 rv
      cases ru
      obtain ⟨o, es, ep, g1, g2, g3, g4, g5, g6, g7⟩ := (I.hok a _ a2).1
      have hl : es.size = kvs.length := by
        have := size_of_entries g4
        have h2 := congrArg List.length a3
        simp only [List.length_map] at h2
        omega
      have raw : s.heap.DictRaw a es ep := ⟨o, g1, g2, g3⟩
      have h62 : sizeLine < 2 ^ 62 := by decide
      refine PyProof.Rows.call_len_slot (n := (kvs.length : Int)) raw.typeIs F.slot_dict_len (fun Q' h => call_len_raw g7 raw (by rw [hl]; exact h)) (by omega) (by
          have h2 := congrArg List.length a3
          simp only [List.length_map] at h2
          omega) ?_
      exact ⟨.int kvs.length, H, I.tok _, ⟨_, rfl⟩, hq ρ H .refl r _ (.int _)⟩
    · rename_i zs hm
      cases hf
      obtain ⟨v, rfl, d1⟩ := dvs_one dv
      obtain ⟨a, rfl, a1, a2⟩ := r.st hm d1
      obtain ⟨u, rfl, ru⟩ := vals1 rv
      cases ru
      obtain ⟨o, es, ep, t, g1, g2, g3, g4, g5, g6, g7, g8⟩ := (show s.heap.SetOf (intKind X.prog X.w) a _ _ from I.hok a _ a2)
      refine call_len_set g1 g2 g3 g7 (by
          have h62 : scanBound < 2 ^ 62 := by decide
          omega) ?_
      rw [g8]
      exact ⟨.int zs.length, H, I.tok _, ⟨_, rfl⟩, hq ρ H .refl r _ (.int _)⟩
    · rename_i zs hm
      cases hf
      obtain ⟨v, rfl, d1⟩ := dvs_one dv
      obtain ⟨a, rfl, a1, a2⟩ := r.sk hm d1
      obtain ⟨u, rfl, ru⟩ := vals1 rv
      cases ru
      obtain ⟨o, es, ep, t, g1, g2, g3, g4, g5, g6, g7, g8⟩ := (I.hok a _ a2).1
      refine call_len_set g1 g2 g3 g7 (by
          have h62 : scanBound < 2 ^ 62 := by decide
          omega) ?_
      rw [g8]
      exact ⟨.int zs.length, H, I.tok _, ⟨_, rfl⟩, hq ρ H .refl r _ (.int _)⟩
    · exact sc_len pins s σ H xs us Q I rv ⟨ρ, M, _, r, dv, z, M', hf, hq⟩
  · exact sc_len pins s σ H xs us Q I rv ⟨ρ, M, _, r, dv, z, M', hf, hq⟩
/-- d[k] = v, too -/
def setE (o i v : Dv) (M : Mem) : Option Mem := match o with
  | .loc n => match M[n]? with
    | some (.dct kvs) => match keyD i with
      | some k => if kvs.length < sizeLine then some (M.set n (.dct (putDk kvs k v))) else none
      | none => match kvs with
        | [] => match keyN i with
          | some k => some (M.set n (.dcn (putN [] k i v)))
          | none => none
        | _ => none
    | some (.dcn kvs) => match keyN i with
      | some k => if kvs.length < sizeLine then some (M.set n (.dcn (putN kvs k i v))) else none
      | none => none
    | _ => setD o i v M
  | _ => setD o i v M
/-- the store of a nested key, by what is known -/
def rSetN (X : Cx) : TSet := fun o i v H Q => ∃ (ρ : List Addr) (a : Addr) (kvs : List (NestedKey × Dv × Dv)) (xs : List (NestedKey × Addr × Value)) (kd : Dv) (k : NestedKey), o = .ref a ∧ (H a = some (NDic X.prog X.w a xs) ∨ (xs = [] ∧ H a = some (.dK []))) ∧
  kvs.map (·.1) = xs.map (·.1) ∧ (∀ p ∈ kvs, keyN p.2.1 = some p.1) ∧ DVs X.K ρ H (kvs.map (·.2.1)) (xs.map fun x => V.ref x.2.1) ∧ keyN kd = some k ∧ DV X.K ρ H kd i ∧ xs.length < sizeLine ∧
  ∀ b u, i = .ref b → RelV v u → Q (upd H a (NDic X.prog X.w a (storedH xs k b u)))
theorem set_dictN (hu : X.A.units + 65 < cLine) : PSet X (rSetN X) := by
  intro pins s σ H o i v ov iv u Q I ro ri rv h
  obtain ⟨ρ, a, kvs, xs, kd, k, rfl, h0, h1, h2, h3, hk, hkd, hl, q⟩ := h
  cases (show ov = Value.ref a from ro)
  obtain ⟨b, rfl, rfl, ki⟩ := key_is I hkd ri hk
  have key : s.heap.DictOfH (nestedKind X.prog X.w) a xs ∧ (a == sysModules) = false ∧ Mut (H a) := by
    rcases h0 with h0 | ⟨rfl, h0⟩
    · obtain ⟨o, es, ep, g1, g2, g3, g4, g5, g6, g7⟩ := (I.hok a _ h0).1
      exact ⟨⟨o, es, ep, g1, g2, g3, g4, keys_are I h1 h2 h3, g5⟩, g7, by rw [h0]; trivial⟩
    · obtain ⟨dd, ds⟩ := dn_empty I h0
      exact ⟨dd, ds, by rw [h0]; trivial⟩
  obtain ⟨dd, ds, mu⟩ := key
  refine wpAny_setItem_heap (hsz := by omega) (room_n hu) ki dd fun h' dd' sb => ?_
  have he : ∃ u, h'.get? a = some u := by
    obtain ⟨o, _, _, ho, _⟩ := dd'
    exact ⟨o, ho⟩
  have hlen : (storedH xs k b u).length ≤ sizeLine := by
    have := storedH_length xs k b u
    omega
  exact ⟨_, I.write (e := a) (t' := s.toks + (nestedKind X.prog X.w).draws k) mu (.inl rfl) (fun b u hb hu => (sb.2 b hb).trans hu) he (ndic_new dd' hlen ds), q b u rfl rv⟩
def gSE (fo fi : FE) : FG := fun d env M => bnd (fo env M) fun o M1 => bnd (fi env M1) fun i M2 => match setE o i d M2 with
  | some M3 => some (env, M3)
  | none => none
theorem PSet.or {r r' : TSet} (h : PSet X r) (h' : PSet X r') : PSet X (fun o i v H Q => r o i v H Q ∨ r' o i v H Q) := fun pins s σ H o i v ov iv u Q I ro ri rv w => w.elim (h pins s σ H o i v ov iv u Q I ro ri rv) (h' pins s σ H o i v ov iv u Q I ro ri rv)
theorem sg_subE {ws : List Nat} (hu : X.A.units + 65 < cLine) (ho : SE X ct o fo) (hi : SE X ct i' fi) (hp : ct.prg = X.prog := by rfl) (hw : ct.wd = X.w := by rfl)
    (ha : ∀ v, assign (.Subscript o i' pos) X.env v = (do
      let ov ← holding [v] (eval o X.env)
      let iv ← holding [v, ov] (eval i' X.env)
      standAt pos
      holding [v, ov, iv] (setItem ov iv v)
      release [v, ov, iv] []) := by intro _; rfl) : SG X ct ws (.Subscript o i' pos) (gSE fo fi) :=
  PG.imp (pg_sub ho hi (PSet.or (PSet.or set_list (set_dict (by omega))) (set_dictN hu)) ha) fun v σ H Q ⟨ρ, M, env, d, r, he, dv, env', M', hf, hq⟩ => by
    obtain ⟨x, M1, h1, hf⟩ := bnd_some hf
    obtain ⟨y, M2, h2, hf⟩ := bnd_some hf
    refine ⟨ρ, M, env, r, he, x, M1, h1, fun ρ1 H1 e1 r1 w dw => ⟨ρ1, M1, env, r1, he.mono e1, y, M2, h2, fun ρ2 H2 e2 r2 u du => ?_⟩⟩
    split at hf
    · rename_i M3 hs
      cases hf
      have old : setD x y d M2 = some M' → (rSetL w u v H2 fun H' => Q σ H') := fun hs => by
        unfold setD at hs
        split at hs
        · split at hs
          · rename_i hm
            split at hs
            · rename_i j hj
              cases hs
              obtain ⟨a, vs, rfl, a1, a2, a3⟩ := r2.lst hm (dw.mono e2)
              cases du
              obtain ⟨r3, e3⟩ := r2.putL a1 a2 (a3.set ((dv.mono e1).mono e2) j)
              exact ⟨a, vs, _, j, rfl, rfl, a2, by rw [← a3.length]; exact hj, hq ρ2 _ ((e1.trans e2).trans e3) r3 σ (((he.mono e1).mono e2).mono e3) .refl⟩
            · cases hs
          · cases hs
        · cases hs
      unfold setE at hs
      split at hs
      · split at hs
        · rename_i kvs hm
          split at hs
          · rename_i k hk
            split at hs
            · rename_i hl
              cases hs
              obtain ⟨a, vs, rfl, a1, a2, a3, a4⟩ := r2.dct hm (dw.mono e2)
              obtain rfl := keyD_of du hk
              have hlen : kvs.length = vs.length := by have := congrArg List.length a3; simpa using this
              obtain ⟨p1, p2⟩ := put_of (k := k) ((dv.mono e1).mono e2) a3 a4
              obtain ⟨oo, hm', hk'⟩ := r2.addr a1
              obtain ⟨r3, e3⟩ := r2.put (o := .dct (putDk kvs k d)) (o' := .dK (putK vs k v)) a1 a2 ⟨_, upd_same, p1, p2.mono (Ext.soft (fun _ _ h => h) (soft_of a2 rfl).1 (soft_of a2 rfl).2)⟩
              exact .inl (.inr ⟨a, _, rfl, DPut.k a2 (hlen ▸ hl), hq ρ2 _ ((e1.trans e2).trans e3) r3 σ (((he.mono e1).mono e2).mono e3) .refl⟩)
            · cases hs
          · split at hs
            · split at hs
              · rename_i k hk
                cases hs
                obtain ⟨a, vs, rfl, a1, a2, a3, a4⟩ := r2.dct hm (dw.mono e2)
                have ev : vs = [] := List.length_eq_zero_iff.mp (by have := congrArg List.length a3; simpa using this.symm)
                subst ev
                refine .inr ⟨ρ2, a, [], [], y, k, rfl, .inr ⟨rfl, a2⟩, rfl, fun p hp => by simp at hp, .nil, hk, du, by decide, fun b u' eb ru => ?_⟩
                subst eb
                obtain ⟨ws', p1, p2, p3, p4, p5⟩ := put_ofN (kvs := []) (xs := []) (vs := []) hk du ((dv.mono e1).mono e2) ru rfl (fun p hp => by simp at hp) .nil .nil .nil
                obtain ⟨oo, hm', hk'⟩ := r2.addr a1
                have sf : Ext X.K ρ2 H2 ρ2 (upd H2 a (NDic X.prog X.w a (storedH [] k b u'))) := Ext.soft (fun _ _ h => h) (soft_of a2 rfl).1 (soft_of a2 rfl).2
                obtain ⟨r3, e3⟩ := r2.put (o := .dcn (putN [] k y d)) (o' := NDic X.prog X.w a (storedH [] k b u')) a1 a2 ⟨_, ws', by rw [upd_same, hp, hw], p1, p2, p3.mono sf, p4.mono sf, p5⟩
                exact hq ρ2 _ ((e1.trans e2).trans e3) r3 σ (((he.mono e1).mono e2).mono e3) .refl
              · cases hs
            · cases hs
        · rename_i kvs hm
          split at hs
          · rename_i k hk
            split at hs
            · rename_i hl
              cases hs
              obtain ⟨a, xs, vs, rfl, a1, a2, a3, a4, a5, a6, a7⟩ := r2.dcn hm (dw.mono e2)
              have hlen : kvs.length = xs.length := by have := congrArg List.length a3; simpa using this
              refine .inr ⟨ρ2, a, kvs, xs, y, k, rfl, .inl (by rw [a2, hp, hw]), a3, a4, a5, hk, du, hlen ▸ hl, fun b u' eb ru => ?_⟩
              subst eb
              obtain ⟨ws', p1, p2, p3, p4, p5⟩ := put_ofN hk du ((dv.mono e1).mono e2) ru a3 a4 a5 a6 a7
              obtain ⟨oo, hm', hk'⟩ := r2.addr a1
              have sf : Ext X.K ρ2 H2 ρ2 (upd H2 a (NDic X.prog X.w a (storedH xs k b u'))) := Ext.soft (fun _ _ h => h) (soft_of a2 rfl).1 (soft_of a2 rfl).2
              obtain ⟨r3, e3⟩ := r2.put (o := .dcn (putN kvs k y d)) (o' := NDic X.prog X.w a (storedH xs k b u')) a1 a2 ⟨_, ws', by rw [upd_same, hp, hw], p1, p2, p3.mono sf, p4.mono sf, p5⟩
              exact hq ρ2 _ ((e1.trans e2).trans e3) r3 σ (((he.mono e1).mono e2).mono e3) .refl
            · cases hs
          · cases hs
        · exact .inl (.inl (old hs))
      · exact .inl (.inl (old hs))
    · cases hf
/-- d.get(k) -/
def fDGet (fo fe : FE) : FE := fun env M => bnd (fo env M) fun d M1 => match d with
  | .loc n => match M1[n]? with
    | some (.dct _) => bnd (fe env M1) fun y M2 => match M2[n]?, keyD y with
      | some (.dct kvs), some k => some ((valD kvs k).getD .non, M2)
      | _, _ => none
    | _ => none
  | _ => none
theorem se_dget {apos cpos : Pos} (hu : X.A.units + 65 < cLine) (ho : SE X ct o fo) (he : SE X ct e fe) (m : M1 X o "get" apos e cpos) : SE X ct (.Call (.Attribute o "get" apos) [e] [] cpos) (fDGet fo fe) :=
  PE.imp (pe_dget1 (by omega) ho he m) fun σ H Q ⟨ρ, M, env, r, hen, d, M', hf, hq⟩ => by
    obtain ⟨x, N1, h1, hf⟩ := bnd_some hf
    refine ⟨ρ, M, env, r, hen, x, N1, h1, fun ρ1 H1 e1 r1 w dw => ?_⟩
    split at hf
    · split at hf
      · rename_i hm
        obtain ⟨a, vs, rfl, a1, a2, a3, a4⟩ := r1.dct hm dw
        obtain ⟨y, N2, h2, hf⟩ := bnd_some hf
        refine ⟨a, rfl, .inl ⟨vs, .inl a2⟩, ρ1, N1, env, r1, hen.mono e1, y, N2, h2, fun ρ2 H2 e2 r2 u du => ?_⟩
        split at hf
        · rename_i kvs k hm2 hk
          cases hf
          obtain ⟨b, vs2, eb, b1, b2, b3, b4⟩ := r2.dct hm2 (dw.mono e2)
          cases eb
          obtain rfl := keyD_of du hk
          refine ⟨_, DGet.k b2, hq ρ2 H2 (e1.trans e2) r2 _ ?_⟩
          obtain ⟨i1, i2⟩ := val_of (k := k) b3 b4
          cases ev : valD kvs k with
          | none => rw [i2 ev]; exact .non
          | some dd => obtain ⟨v, e3, dv⟩ := i1 dd ev; rw [e3]; exact dv
        · cases hf
      · cases hf
    · cases hf
end
end Zl

/-! text Z18 -/
namespace Zl
open PySem L2 PySem.Spec PyProof.Rows
/-! ## range, counting down -/
section
variable {X : Cx} {ct : Ct} {pos p : Pos} {tg a b c : Expr} {fa fb fc : FE}
def srcC (lo c : Int) (n : Nat) : Src := ⟨n, fun i _ => if i < n then some (some (.int (lo + i * c))) else some none⟩
theorem feeds_rngC {K : Frg} {ρ0 : List Addr} {H0 : Hp} {lo c : Int} {n : Nat} : Feeds K ct ρ0 H0 (Itc lo c n) (srcC lo c n).stp := by
  intro i ρ M H _ r
  show (match (if i < n then some (some (Dv.int (lo + i * c))) else some none) with | some (some d) => _ | some none => _ | none => _)
  by_cases hi : i < n
  · rw [if_pos hi]
    refine ⟨hi, fun y H' hy => ?_⟩
    obtain ⟨e, ey⟩ := hy
    subst e; subst ey
    exact ⟨.refl, r, .int _⟩
  · rw [if_neg hi]
    exact Nat.le_of_not_lt hi
def fRng3 (f g h : FE) : FI := fun env M => bnd (f env M) fun d M1 => bnd (g env M1) fun d2 M2 => bnd (h env M2) fun d3 M3 => match d, d2, d3 with
  | .int i, .int j, .int k => if k = -1 ∧ -(2 ^ 62) ≤ i ∧ i < 2 ^ 62 ∧ -(2 ^ 62) ≤ j ∧ j < 2 ^ 62 then some (srcC i (-1) (i - j).toNat, M3) else none
  | _, _, _ => none
theorem dvs_three {K : Frg} {ρ : List Addr} {H : Hp} {x y z : Dv} {vs : List V} (h : DVs K ρ H [x, y, z] vs) : ∃ u v w, vs = [u, v, w] ∧ DV K ρ H x u ∧ DV K ρ H y v ∧ DV K ρ H z w := by
  cases h with
  | cons h1 hr =>
    obtain ⟨v, w, rfl, h2, h3⟩ := dvs_two hr
    exact ⟨_, _, _, rfl, h1, h2, h3⟩
theorem si_range3 (hg : Gl X "range") (hm : X.mg "range" = none) (ha : SE X ct a fa) (hb : SE X ct b fb) (hc : SE X ct c fc)
    (hs : starEach [a, b, c] X.env = (false, eval a X.env) :: starEach [b, c] X.env := by rfl)
    (hs2 : starEach [b, c] X.env = (false, eval b X.env) :: starEach [c] X.env := by rfl)
    (hs3 : starEach [c] X.env = [(false, eval c X.env)] := by rfl)
    (hpl : (backTo pos (starEach [b, c] X.env)).any (·.1) = false := by rfl) : SI X ct tg (.Call (.Name "range" p) [a, b, c] [] pos) (fRng3 fa fb fc) :=
  PI.imp (pi_range3 hg hm (sa_cons ha (sa_cons hb (sa_cons hc sa_nil hs3) hs2) hs) hs hpl) fun σ H R ⟨ρ, M, env, r, he, src, M', hf, hq⟩ => by
    obtain ⟨d, M1, h1, hf⟩ := bnd_some hf
    obtain ⟨d2, M2, h2, hf⟩ := bnd_some hf
    obtain ⟨d3, M3, h3, hf⟩ := bnd_some hf
    refine ⟨ρ, M, env, r, he, [d, d2, d3], M3, by show bnd (fa env M) _ = _; rw [h1]; show bnd (bnd (fb env M1) _) _ = _; rw [h2]; show bnd (bnd (bnd (fc env M2) _) _) _ = _; rw [h3]; rfl, fun ρ1 H1 e1 r1 vs dvs => ?_⟩
    split at hf
    · split at hf
      · rename_i hb
        cases hf
        obtain ⟨v, u, w, rfl, d1, d2, d3⟩ := dvs_three dvs
        cases d1; cases d2; cases d3
        obtain ⟨rfl, b1, b2, b3, b4⟩ := hb
        exact ⟨_, _, _, _, rfl, RgC.neg b1 b2 b3 b4, hq ρ1 H1 e1 r1 _ feeds_rngC⟩
      · cases hf
    · cases hf
end
end Zl

/-! text Z19 -/
namespace Zl
open PySem L2 PySem.Spec PyProof.Rows
section
variable {X : Cx} {ct : Ct}
/-! xs.remove(k): a list of whole numbers, k among them -/
def intsOf : List Dv → Option (List Int)
  | [] => some []
  | .int i :: ds => match intsOf ds with
    | some is => some (i :: is)
    | none => none
  | _ => none
theorem intsOf_eq : ∀ {ds : List Dv} {is : List Int}, intsOf ds = some is → ds = is.map .int
  | [], _, h => by cases h; rfl
  | .int i :: ds, is, h => by
    unfold intsOf at h
    split at h
    · rename_i js e
      cases h
      rw [intsOf_eq e]; rfl
    · cases h
  | .non :: _, _, h => by cases h
  | .bl _ :: _, _, h => by cases h
  | .str _ :: _, _, h => by cases h
  | .tup _ :: _, _, h => by cases h
  | .pr _ :: _, _, h => by cases h
  | .rol _ :: _, _, h => by cases h
  | .loc _ :: _, _, h => by cases h
  | .ty _ :: _, _, h => by cases h
theorem intsOf_map : ∀ is : List Int, intsOf (is.map .int) = some is
  | [] => rfl
  | i :: is => by
    show (match intsOf (is.map .int) with | some js => some (i :: js) | none => none) = _
    rw [intsOf_map]
theorem vs_ints {K : Frg} {ρ : List Addr} {H : Hp} : ∀ {is : List Int} {vs : List V}, DVs K ρ H (is.map .int) vs → vs = is.map V.int
  | [], _, h => by cases h; rfl
  | i :: is, _, h => by
    cases h with
    | cons a b =>
      cases a
      rw [vs_ints b]; rfl
theorem ints_dvs {K : Frg} {ρ : List Addr} {H : Hp} : ∀ (is : List Int), DVs K ρ H (is.map .int) (is.map V.int)
  | [] => .nil
  | i :: is => .cons (.int i) (ints_dvs is)
def removeD : FM
  | .loc n, [.int k], M => match M[n]? with
    | some (.lst ys) => match intsOf ys with
      | some is => if k ∈ is then some (.non, M.set n (.lst ((is.erase k).map .int))) else none
      | none => none
    | _ => none
  | _, _, _ => none
theorem sm_remove : SM X ct "list.remove" removeD := by
  intro pins s σ H x xs v us Q I rx rxs w
  obtain ⟨ρ, M, d, ds, r, dx, dxs, z, M', hf, hq⟩ := w
  unfold removeD at hf
  split at hf
  · split at hf
    · rename_i hm
      split at hf
      · rename_i is hi
        split at hf
        · rename_i hk
          cases hf
          have hy := intsOf_eq hi
          subst hy
          obtain ⟨l, vs, rfl, a1, hH, a3⟩ := r.lst hm dx
          have hv := vs_ints a3
          subst hv
          obtain ⟨y, rfl, dy⟩ := dvs_one dxs
          cases dy
          obtain ⟨u, rfl, ru⟩ := vals1 rxs
          obtain ⟨t, rfl⟩ := ru
          cases rx
          rename_i n k _o1 _o2
          obtain ⟨r2, e2⟩ := r.putL a1 hH (ints_dvs (K := X.K) (ρ := ρ) (H := H) (is.erase k))
          obtain ⟨z, its, n', rr, hl, e0⟩ := I.lstM hH
          have hi' : IntsAre its is := intsAre_of rr
          have heq := eq_isInt k t hi'
          have hnl : is.length = its.length := by rw [← hl, List.length_map]
          have hsz : its.toArray.size ≤ sizeLine := by rw [List.size_toArray, ← hl]; exact z
          obtain ⟨j, j1, j2, j3, j4⟩ := first_at hk
          have hj : j < its.length := by omega
          refine call_meets PySem.F.slot_list_remove ⟨_, e0, rfl⟩ PySem.F.entry_list_remove (PySem.F.args_list_remove_2 _ _)
            (MeetsSeq.list_remove l its.toArray n' (.int k t) (isInt k) (fun y hy => heq y (by simpa using hy)) j (by rw [List.size_toArray]; exact hj) ?hit (fun i hi2 hlt => ?hno) hsz) ⟨e0, ?_⟩
          case hit =>
            show isInt k its[j] = true
            exact (L2.isInt_at k hi' j hj).mpr j2
          case hno =>
            have hi3 : i < its.length := by rw [List.size_toArray] at hi2; exact hi2
            show isInt k its[i] = false
            rw [Bool.eq_false_iff]
            intro w
            exact j3 i hlt ((L2.isInt_at k hi' i hi3).mp w)
          have r3 : Vals ((is.erase k).map V.int) (its.eraseIdx j) := by
            have w := rr.eraseIdx j
            rw [map_eraseIdx', j4] at w
            exact w
          refine ⟨.non, _, I.lset (its' := its.eraseIdx j) hH e0 ?_ r3 ?_, rfl, hq ρ _ e2 r2 _ .non⟩
          · show its.toArray.eraseIdxIfInBounds j = (its.eraseIdx j).toArray
            rw [List.eraseIdxIfInBounds_toArray]
          · rw [List.length_map]
            have := List.length_erase_le (a := k) (l := is)
            rw [List.length_map] at z
            omega
        · cases hf
      · cases hf
    · cases hf
  · cases hf
end
end Zl

/-! text Z20 -/
namespace Zl
open PySem L2 PySem.Spec PyProof.Rows
/-! ## [e for t in a for t1 in b] -/
def comp2F (it : Stp) (g : FG) (ft : FT) (fi1 : FI) (vs1 : List Nat) (g1 : FG) (ft1 : FT) (fe : FE) (e0 : En) (n : Nat) : Nat → Nat → Mem → Option Mem
  | 0, i, M => match it i M with
    | some none => some M
    | _ => none
  | k + 1, i, M => match it i M with
    | some none => some M
    | some (some d) => match g d e0 M with
      | some (e1, M1) => match ft e1 M1 with
        | some (true, M2) => match fi1 e1 M2 with
          | some (src1, M3) => match compF src1.stp g1 ft1 fe (wipeE e1 vs1) n src1.many 0 M3 with
            | some M4 => comp2F it g ft fi1 vs1 g1 ft1 fe e0 n k (i + 1) M4
            | none => none
          | none => none
        | some (false, M2) => comp2F it g ft fi1 vs1 g1 ft1 fe e0 n k (i + 1) M2
        | none => none
      | none => none
    | none => none
def fComp2 (fi : FI) (vs : List Nat) (g : FG) (ft : FT) (fi1 : FI) (vs1 : List Nat) (g1 : FG) (ft1 : FT) (fe : FE) : FE := fun env M => bnd (fi env M) fun src M1 =>
  match comp2F src.stp g ft fi1 vs1 g1 ft1 fe (wipeE env vs) M1.length src.many 0 (M1 ++ [.lst []]) with
  | some M2 => some (.loc M1.length, M2)
  | none => none
section
variable {X : Cx} {ct : Ct} {tg iter tg1 iter1 : Expr} {pos : Pos} {fe : FE} {fi fi1 : FI} {g g1 : FG}
theorem lc2_imp {vs vs1 : List Nat} {ft ft1 : FT} {σ : L2.St} {H : Hp} {Q : VK} (w : tE X.K ct (fComp2 fi vs g ft fi1 vs1 g1 ft1 fe) σ H Q) : tLc2 (tI X.K ct fi) (tG X.K ct vs g) (tT X.K ct ft) (tI X.K ct fi1) (tG X.K ct vs1 g1) (tT X.K ct ft1) (tE X.K ct fe) vs vs1 σ H Q := by
  obtain ⟨ρ, M, env, r, he, d, M', hf, hq⟩ := w
  obtain ⟨src, M1, h1, hf⟩ := bnd_some hf
  split at hf
  · rename_i M2 hc
    cases hf
    refine ⟨ρ, M, env, r, he, src, M1, h1, fun ρ0 H0 e0 r0 J hJ D hD => ?_⟩
    obtain ⟨rN, xN, aN⟩ := r0.newL hD (.nil : DVs X.K ρ0 H0 [] [])
    refine ⟨fun i m H => ∃ ρ M, Ext X.K ρ0 H0 ρ H ∧ Rl X.K ct ρ M H ∧ ρ[M1.length]? = some D ∧ comp2F src.stp g ft fi1 vs1 g1 ft1 fe (wipeE env vs) M1.length m i M = some M' ∧ Aft X.K ct ρ H M' fun ρ' H' => ∀ v, DV X.K ρ' H' (.loc M1.length) v → Q v H',
      ⟨src.many, ρ0 ++ [D], _, xN, rN, aN, hc, (hq.later e0).later xN⟩, ?_⟩
    rintro i m H ⟨ρ, M, x0, r, aD, hf, hq⟩
    have hj := hJ i ρ M H x0 r
    have he' := ((he.mono e0).mono x0).wipe vs
    cases q : src.stp i M with
    | none =>
      cases m with
      | zero => rw [comp2F, q] at hf; cases hf
      | succ m => rw [comp2F, q] at hf; cases hf
    | some o =>
      rw [q] at hj
      cases o with
      | none =>
        have e : some M = some M' := by
          cases m with
          | zero => rw [comp2F, q] at hf; exact hf
          | succ m => rw [comp2F, q] at hf; exact hf
        cases e
        exact .inl ⟨hj, hq ρ H .refl r _ (.loc aD)⟩
      | some d =>
        cases m with
        | zero => rw [comp2F, q] at hf; cases hf
        | succ m =>
          rw [comp2F, q] at hf
          dsimp only at hf
          refine .inr ⟨hj.1, fun H' => ∃ ρ M, Ext X.K ρ0 H0 ρ H' ∧ Rl X.K ct ρ M H' ∧ ρ[M1.length]? = some D ∧ comp2F src.stp g ft fi1 vs1 g1 ft1 fe (wipeE env vs) M1.length m (i + 1) M = some M' ∧ Aft X.K ct ρ H' M' fun ρ' H' => ∀ v, DV X.K ρ' H' (.loc M1.length) v → Q v H',
            fun H' n => ⟨m, Nat.lt_succ_self m, n⟩, fun x H' hy => ?_⟩
          obtain ⟨y1, y2, y3⟩ := hj.2 x H' hy
          split at hf
          · rename_i e1 N1 gg1
            refine ⟨ρ, M, wipeE env vs, d, y2, he'.mono y1, y3, e1, N1, gg1, fun ρ1 H1 x1 r1 σ1 en1 oe => ⟨wipe_eq oe, ?_⟩⟩
            split at hf
            · rename_i N2 g2
              refine ⟨ρ1, N1, e1, r1, en1, true, N2, g2, fun ρ2 H2 x2 r2 => ?_⟩
              dsimp only
              rw [if_pos rfl]
              split at hf
              · rename_i src1 N3 g3
                split at hf
                · rename_i N4 hc1
                  refine ⟨ρ2, N2, e1, r2, en1.mono x2, src1, N3, g3, fun ρ3 H3 x3 r3 J1 hJ1 => ?_⟩
                  have xx := ((y1.trans x1).trans x2).trans x3
                  have en3 := (en1.mono x2).mono x3
                  refine ⟨fun j k H => ∃ ρ M, Ext X.K ρ3 H3 ρ H ∧ Rl X.K ct ρ M H ∧ ρ[M1.length]? = some D ∧ compF src1.stp g1 ft1 fe (wipeE e1 vs1) M1.length k j M = some N4,
                    ⟨src1.many, ρ3, N3, .refl, r3, xx.pre _ _ aD, hc1⟩, ?_⟩
                  rintro j k H5 ⟨ρ5, M5, x5, r5, aD5, hf5⟩
                  have hj1 := hJ1 j ρ5 M5 H5 x5 r5
                  have en5 := (en3.mono x5).wipe vs1
                  cases q1 : src1.stp j M5 with
                  | none =>
                    cases k with
                    | zero => rw [compF, q1] at hf5; cases hf5
                    | succ k => rw [compF, q1] at hf5; cases hf5
                  | some o =>
                    rw [q1] at hj1
                    cases o with
                    | none =>
                      have e : some M5 = some N4 := by
                        cases k with
                        | zero => rw [compF, q1] at hf5; exact hf5
                        | succ k => rw [compF, q1] at hf5; exact hf5
                      cases e
                      exact .inl ⟨hj1, ρ5, _, x0.trans (xx.trans x5), r5, aD5, hf, hq.later (xx.trans x5)⟩
                    | some d5 =>
                      cases k with
                      | zero => rw [compF, q1] at hf5; cases hf5
                      | succ k =>
                        rw [compF, q1] at hf5
                        dsimp only at hf5
                        refine .inr ⟨hj1.1, fun H' => ∃ ρ M, Ext X.K ρ3 H3 ρ H' ∧ Rl X.K ct ρ M H' ∧ ρ[M1.length]? = some D ∧ compF src1.stp g1 ft1 fe (wipeE e1 vs1) M1.length k (j + 1) M = some N4,
                          fun H' n => ⟨k, Nat.lt_succ_self k, n⟩, fun x H' hy => ?_⟩
                        obtain ⟨z1, z2, z3⟩ := hj1.2 x H' hy
                        split at hf5
                        · rename_i e6 N6 g6
                          refine ⟨ρ5, M5, wipeE e1 vs1, d5, z2, en5.mono z1, z3, e6, N6, g6, fun ρ6 H6 x6 r6 σ6 en6 oe6 => ⟨wipe_eq oe6, ?_⟩⟩
                          split at hf5
                          · rename_i N7 g7
                            refine ⟨ρ6, N6, e6, r6, en6, true, N7, g7, fun ρ7 H7 x7 r7 => ?_⟩
                            dsimp only
                            rw [if_pos rfl]
                            split at hf5
                            · rename_i y N8 g8
                              refine ⟨ρ7, N7, e6, r7, en6.mono x7, y, N8, g8, fun ρ8 H8 x8 r8 v dv => ?_⟩
                              split at hf5
                              · rename_i acc hm
                                split at hf5
                                · rename_i hl
                                  have xx8 := ((z1.trans x6).trans x7).trans x8
                                  have aD8 := xx8.pre _ _ aD5
                                  obtain ⟨b, ws, eb, b1, b2, b3⟩ := r8.lst hm (.loc aD8)
                                  cases eb
                                  obtain ⟨r9, x9⟩ := r8.putL aD8 b2 (b3.append (.cons dv .nil))
                                  exact ⟨ws, b2, by rw [← b3.length]; exact hl, ρ8, _, (x5.trans xx8).trans x9, r9, aD8, hf5⟩
                                · cases hf5
                              · cases hf5
                            · cases hf5
                          · rename_i N7 g7
                            refine ⟨ρ6, N6, e6, r6, en6, false, N7, g7, fun ρ7 H7 x7 r7 => ?_⟩
                            dsimp only
                            rw [if_neg (by decide)]
                            have xx7 := (z1.trans x6).trans x7
                            exact ⟨ρ7, N7, x5.trans xx7, r7, xx7.pre _ _ aD5, hf5⟩
                          · cases hf5
                        · cases hf5
                · cases hf
              · cases hf
            · rename_i N2 g2
              refine ⟨ρ1, N1, e1, r1, en1, false, N2, g2, fun ρ2 H2 x2 r2 => ?_⟩
              dsimp only
              rw [if_neg (by decide)]
              have xx := (y1.trans x1).trans x2
              exact ⟨ρ2, N2, x0.trans xx, r2, xx.pre _ _ aD, hf, hq.later xx⟩
            · cases hf
          · cases hf
  · cases hf
theorem se_comp2 {elt : Expr} {ifs ifs1 : List Expr} {scope : Scope} {own : List (Str × Nat)} {vs1 : List Nat} {ft ft1 : FT} (hc : X.calm = true) (hN : X.N.Nodup) (hi : SI X ct tg iter fi) (ok : BlkOk X.N X.env.scope scope own) (hv : ∀ i ∈ vs1, i ∈ own.map (·.2))
    (hg : ∀ s H C cl fp, SG (Cx.cb X scope s H C cl fp) ct (own.map (·.2)) tg g) (ht : ∀ s H C cl fp, STs (Cx.cb X scope s H C cl fp) ct ifs ft)
    (hi1 : ∀ s H C cl fp, SI (Cx.cb X scope s H C cl fp) ct tg1 iter1 fi1)
    (hg1 : ∀ s H C cl fp, SG (Cx.cb X scope s H C cl fp) ct vs1 tg1 g1) (ht1 : ∀ s H C cl fp, STs (Cx.cb X scope s H C cl fp) ct ifs1 ft1)
    (he : ∀ s H C cl fp, SE (Cx.cb X scope s H C cl fp) ct elt fe) (hs : ∀ x, foldedSetIterable iter X.env x = pure x := by intro _; rfl) (hs1 : ∀ env x, foldedSetIterable iter1 env x = pure x := by intro _ _; rfl) :
    SE X ct (.ListComp elt [⟨tg, iter, ifs, 0⟩, ⟨tg1, iter1, ifs1, 0⟩] scope pos) (fComp2 fi (own.map (·.2)) g ft fi1 vs1 g1 ft1 fe) :=
  PE.imp (pe_lc2 hc hN hi ok hv hg ht hi1 hg1 ht1 he hs hs1) fun _ _ _ w => lc2_imp w
end
end Zl

/-! text Z21 -/
namespace Zl
open PySem L2 PySem.Spec PyProof.Rows
/-! ## {k: v}, the key a nested tuple -/
def fDict1N (fk fv : FE) : FE := fun env M => bnd (fk env (M ++ [.dct []])) fun kd M1 => bnd (fv env M1) fun vd M2 => match M2[M.length]? with
  | some (.dct []) => match keyN kd with
    | some k => some (.loc M.length, M2.set M.length (.dcn (putN [] k kd vd)))
    | none => none
  | _ => none
section
variable {X : Cx} {ct : Ct} {pos : Pos} {k v : Expr} {fk fv : FE}
theorem se_dict1N (hu : X.A.units + 65 < cLine) (hk : SE X ct k fk) (hv : SE X ct v fv) (hp : ct.prg = X.prog := by rfl) (hw : ct.wd = X.w := by rfl) : SE X ct (.Dict [some k] [v] pos) (fDict1N fk fv) := by
  refine ⟨fun pins s σ H Q I h => ?_⟩
  obtain ⟨ρ, M, env, r, he, d, M', hf, hq⟩ := h
  obtain ⟨kd, M1, h1, hf⟩ := bnd_some hf
  obtain ⟨vd, M2, h2, hf⟩ := bnd_some hf
  have hn := I.hok.fresh (Nat.le_refl s.heap.objs.size)
  have I1 := I.laid (a := s.heap.objs.size) (o := .dK []) (h' := s.heap.push { cls := .type "dict", data := .dict #[] }) (t' := s.toks) (fun _ _ q => Heap.get?_push_of_some _ q) (Nat.le_refl _) (dk_empty s.heap I.big)
  obtain ⟨r1, x1, a1⟩ := r.new (o := .dct []) (o' := .dK []) hn ⟨[], upd_same, rfl, .nil⟩
  have room : (nestedKind X.prog X.w).room X.A := by show X.A.units + 8 < cLine; omega
  rw [arm_eval_Dict, zip_pairTrees [some k] [v] X.env pos rfl rfl, dictDisplay_pairs (pairTrees [some k] [v] X.env pos) (by intro z; cases z) (by show 1 < 17; decide)]
  refine wpAny_bind (wpAny_standAt (wpAny_bind (wpAny_subDictH (knd := nestedKind X.prog X.w) (Q := fun d s' => wpAny (model X.prog X.w) X.A (pure (Value.ref d)) (EP X pins σ Q) X.xe s') room (by show 1 ≤ 15; decide)
    (thn ((pps_cons hk hv pps_nil).run pins _ σ _ (fun ps H3 => ∃ ρ3 x y, ps = [(x, y)] ∧ Ext X.K (ρ ++ [s.heap.objs.size]) (upd H s.heap.objs.size (.dK [])) ρ3 H3 ∧ Rl X.K ct ρ3 M2 H3 ∧ DV X.K ρ3 H3 kd x ∧ DV X.K ρ3 H3 vd y) I1
      ⟨ρ ++ [s.heap.objs.size], M ++ [.dct []], env, r1, he.mono x1, kd, M1, h1, fun ρ2 H2 e2 r2 x dx => ⟨ρ2, M1, env, r2, (he.mono x1).mono e2, vd, M2, h2, fun ρ3 H3 e3 r3 y dy => ⟨ρ3, x, y, rfl, e2.trans e3, r3, dx.mono e3, dy⟩⟩⟩) ?_))))
  rintro ws s2 ⟨ps, H2, I2, rel, ρ3, x, y, rfl, e3, r3, dx, dy⟩
  cases rel with
  | cons rl rt =>
    cases rt
    rename_i uu
    obtain ⟨u1, u2⟩ := uu
    obtain ⟨ru1, ru2⟩ := rl
    split at hf
    · rename_i hm
      split at hf
      · rename_i k0 hk0
        cases hf
        obtain ⟨b, rfl, eb, ki⟩ := key_is I2 dx ru1 hk0
        have a3 := e3.pre _ _ a1
        obtain ⟨a, vs, ea, b1, b2, b3, b4⟩ := r3.dct hm (.loc a3)
        cases ea
        have ev : vs = [] := List.length_eq_zero_iff.mp (by have := congrArg List.length b3; simpa using this.symm)
        subst ev
        obtain ⟨dd, ds⟩ := dn_empty I2 b2
        refine ⟨[(k0, b, u2)], ⟨eb, rfl, ki, trivial⟩, dd, fun h' tk dd' sb => wpAny_pure ?_⟩
        have he' : ∃ u, h'.get? s.heap.objs.size = some u := by
          obtain ⟨o, _, _, ho, _⟩ := dd'
          exact ⟨o, ho⟩
        have hst : storedAllH [] [(k0, b, u2)] = storedH [] k0 b u2 := rfl
        rw [hst] at dd'
        have hlen : (storedH ([] : List (NestedKey × Addr × Value)) k0 b u2).length ≤ sizeLine := by
          have := storedH_length ([] : List (NestedKey × Addr × Value)) k0 b u2
          have h0 : (1 : Nat) ≤ sizeLine := by decide
          simp only [List.length_nil] at this
          omega
        obtain ⟨ws', p1, p2, p3, p4, p5⟩ := put_ofN (kvs := []) (xs := []) (vs := []) hk0 dx dy ru2 rfl (fun p hp => by simp at hp) .nil .nil .nil
        obtain ⟨oo, hm', hk'⟩ := r3.addr a3
        have sf : Ext X.K ρ3 H2 ρ3 (upd H2 s.heap.objs.size (NDic X.prog X.w s.heap.objs.size (storedH [] k0 b u2))) := Ext.soft (fun _ _ h => h) (soft_of b2 rfl).1 (soft_of b2 rfl).2
        obtain ⟨r4, e4⟩ := r3.put (o := .dcn (putN [] k0 kd vd)) (o' := NDic X.prog X.w s.heap.objs.size (storedH [] k0 b u2)) a3 b2 ⟨_, ws', by rw [upd_same, hp, hw], p1, p2, p3.mono sf, p4.mono sf, p5⟩
        refine ⟨.ref s.heap.objs.size, _, I2.write (e := s.heap.objs.size) (t' := tk) (by rw [b2]; trivial) (.inl rfl) (fun b u hb hu => (sb.2 b hb).trans hu) he' (ndic_new dd' hlen ds), rfl, ?_⟩
        exact hq ρ3 _ ((x1.trans e3).trans e4) r4 _ (.loc (e4.pre _ _ a3))
      · cases hf
    · cases hf
end
end Zl

/-! text Z22 -/
namespace Zl
open PySem L2 PySem.Spec PyProof.Rows
/-! ## set(list of whole numbers) -/
def dedupI (is : List Int) : List Int := PyProof.Rows.firstMet (fun i => is.getD i 0) is.length
def setOfD : List Dv → Mem → Rz
  | [.loc n], M => match M[n]? with
    | some (.lst ys) => match intsOf ys with
      | some is => if is.length < 4000 then some (.loc M.length, M ++ [.st (dedupI is)]) else none
      | none => none
    | _ => none
  | _, _ => none
section
variable {X : Cx} {ct : Ct}
theorem sc_set (hc : X.calm = true) : SC X ct (.type "set") setOfD := by
  intro pins s σ H xs us Q I rv h
  obtain ⟨ρ, M, ds, r, dv, z, M', hf, hq⟩ := h
  unfold setOfD at hf
  split at hf
  · split at hf
    · rename_i ys hm
      split at hf
      · rename_i is hi
        split at hf
        · rename_i hl
          cases hf
          have hy := intsOf_eq hi
          subst hy
          obtain ⟨v, rfl, d1⟩ := dvs_one dv
          obtain ⟨l, vs, rfl, a1, hH, a3⟩ := r.lst hm d1
          have hv := vs_ints a3
          subst hv
          obtain ⟨u, rfl, ru⟩ := vals1 rv
          cases ru
          obtain ⟨its, rvv, pl, hz⟩ := I.list (SqL.of hH)
          have hia : IntsAre its is := intsAre_of rvv
          have hlen : its.length = is.length := by have := rvv.length; simpa using this.symm
          have hn : H s.heap.objs.size = none := I.hok.fresh (Nat.le_refl _)
          refine call_set_list (ns := is) (I.ok.hd hc) pl.isList (by simpa using hia) (by
            have h4 : 4001 < scanBound := by decide
            rw [List.size_toArray, hlen]; omega) fun h' tk R keep => ?_
          have hsz : its.toArray.size = is.length := by simpa using hlen
          rw [hsz] at R
          obtain ⟨r2, e2, h2⟩ := r.new (o := .st (dedupI is)) (o' := .set (fun k => (dedupI is).any (· == k)) (dedupI is).length) hn upd_same
          exact ⟨.ref s.heap.objs.size, _, I.laid (o := .set (fun k => (dedupI is).any (· == k)) (dedupI is).length) (t' := tk) (fun b u e => keep b u (Heap.lt_size e) e) (Nat.le_refl _) R, rfl, hq _ _ e2 r2 _ (.loc h2)⟩
        · cases hf
      · cases hf
    · cases hf
  · cases hf
/-- *e, a tuple, in a display or in a list of arguments -/
theorem sa_star {e : Expr} {es : List Expr} {p : Pos} {fa : FE} {fr : FA} (h : SE X ct e fa) (k : SA X ct es fr) (hs : starEach (.Starred e p :: es) X.env = (true, eval e X.env) :: starEach es X.env := by rfl) : SA X ct (.Starred e p :: es) (fStar fa fr) :=
  PA.imp (StX.pa_star h k hs) fun σ H Q ⟨ρ, M, env, r, he, d, M', hf, hq⟩ => by
    obtain ⟨x, M1, h1, hf⟩ := bnd_some hf
    split at hf
    · rename_i zs
      obtain ⟨ys, M2, h2, hf⟩ := bnd_some hf
      cases hf
      refine ⟨ρ, M, env, r, he, _, M1, h1, fun ρ1 H1 e1 r1 v dv => ?_⟩
      cases dv with
      | tup td ds =>
        exact ⟨_, _, rfl, .inl td.sq, ρ1, M1, env, r1, he.mono e1, ys, _, h2, fun ρ2 H2 e2 r2 vs dvs => hq ρ2 H2 (e1.trans e2) r2 _ ((ds.mono e2).append dvs)⟩
    · cases hf
/-- {k: v}, the key a whole number or a text -/
def fDict1K (fk fv : FE) : FE := fun env M => bnd (fk env (M ++ [.dct []])) fun kd M1 => bnd (fv env M1) fun vd M2 => match M2[M.length]? with
  | some (.dct []) => match keyD kd with
    | some k => some (.loc M.length, M2.set M.length (.dct (putDk [] k vd)))
    | none => none
  | _ => none
theorem se_dict1K {k v : Expr} {fk fv : FE} {pos : Pos} (hk : SE X ct k fk) (hv : SE X ct v fv) : SE X ct (.Dict [some k] [v] pos) (fDict1K fk fv) :=
  PE.imp (pe_disp (pps_cons hk hv pps_nil) rfl rfl (by intro z; cases z) (by show 1 ≤ 15; decide)) fun σ H Q ⟨ρ, M, env, r, he, d, M', hf, hq⟩ p hp => by
    obtain ⟨kd, M1, h1, hf⟩ := bnd_some hf
    obtain ⟨vd, M2, h2, hf⟩ := bnd_some hf
    obtain ⟨r1, x1, a1⟩ := r.new (o := .dct []) (o' := .dK []) hp ⟨[], upd_same, rfl, .nil⟩
    refine ⟨ρ ++ [p], M ++ [.dct []], env, r1, he.mono x1, kd, M1, h1, fun ρ2 H2 e2 r2 x dx => ⟨ρ2, M1, env, r2, (he.mono x1).mono e2, vd, M2, h2, fun ρ3 H3 e3 r3 y dy => ?_⟩⟩
    split at hf
    · rename_i hm
      split at hf
      · rename_i k0 hk0
        cases hf
        have a3 := (e2.trans e3).pre _ _ a1
        obtain ⟨a, vs, ea, b1, b2, b3, b4⟩ := r3.dct hm (.loc a3)
        cases ea
        have ev : vs = [] := List.length_eq_zero_iff.mp (by have := congrArg List.length b3; simpa using this.symm)
        subst ev
        obtain rfl := keyD_of dx hk0
        obtain ⟨p1, p2⟩ := put_of (k := k0) dy b3 b4
        obtain ⟨oo, hm', hk'⟩ := r3.addr a3
        obtain ⟨r4, e4⟩ := r3.put (o := .dct (putDk [] k0 vd)) (o' := .dK (putK [] k0 y)) a3 b2 ⟨_, upd_same, p1, p2.mono (Ext.soft (fun _ _ h => h) (soft_of b2 rfl).1 (soft_of b2 rfl).2)⟩
        exact ⟨b2, [(k0, y)], rfl, by show 1 ≤ 15; decide, hq ρ3 _ ((x1.trans (e2.trans e3)).trans e4) r4 _ (.loc (e4.pre _ _ a3))⟩
      · cases hf
    · cases hf
end
end Zl

/-! text Z23 -/
namespace Zl
open PySem L2 PySem.Spec PyProof.Rows
/-! ## properties, attributes that are added to, sets of texts, sorted(.., reverse=True) -/
section
variable {X : Cx} {ct : Ct} {k : Nat} {f C p g : Addr} {fd : FuncData} {ps : List Str} {F : FF} {fld : Str} {pos pos' : Pos} {e o v' : Expr} {fo fv : FE} {c : Nat}
/-- o.f, a property of the own class -/
def fProp (c : Nat) (fld : Str) (np : Nat) (F : FF) (fo : FE) : FE := fun env M => bnd (fo env M) fun d M1 => if isIns c fld d M1 = true ∧ 1 = np then F [d] M1 else none
theorem se_prop (ho : SE X ct o fo) (hc : ct c = some C) (cl : Cls X.K C) (hp : PropOf X.K C fld p g) (G : SF X ct k g fd ps F) (hr : Room (k + 1) X.A) (hgd : X.A.guards = some []) (hb : Binds X.K fd ps [])
    (hab : attributeBase o fld X.env (eval o X.env) = eval o X.env := by rfl) : SE X ct (.Attribute o fld pos) (fProp c fld ps.length F fo) := by
  refine ⟨fun pins s σ H Q I w => ?_⟩
  obtain ⟨ρ, M, env, r, hen, d, M', hf, hq⟩ := w
  obtain ⟨y, M1, h1, hf⟩ := bnd_some hf
  split at hf
  · rename_i hi
    refine attr_of hab (thn (ho.run pins s σ H (fun v H1 => ∃ ρ1, Ext X.K ρ H ρ1 H1 ∧ Rl X.K ct ρ1 M1 H1 ∧ DV X.K ρ1 H1 y v) I ⟨ρ, M, env, r, hen, y, M1, h1, fun ρ1 H1 e1 r1 v dv => ⟨ρ1, e1, r1, dv⟩⟩) fun u s1 z => ?_)
    obtain ⟨v, H1, I1, rv, ρ1, e1, r1, dv⟩ := z
    obtain ⟨a, dx, vfs, rfl, a3, a4⟩ := isIns_ok r1 dv hc hi.1
    obtain rfl : u = Value.ref a := rv
    obtain ⟨mA, O, _, _, _, _⟩ := ins_get I1.hok a3
    obtain ⟨od, J, _⟩ := O.look
    obtain ⟨rest, hrec⟩ := hp.rec_
    have I2 := I1.tok (s1.toks + 1)
    have hC : (PySem.W.clsIn X.K C).isSome = true := by obtain ⟨cd, q, _⟩ := PySem.W.any_some cl.hd; rw [q]; rfl
    have bt := hb { s1 with toks := s1.toks + 1 } [.ref a] I2.kIn (by simpa using hi.2)
    rw [List.append_nil] at bt
    refine PySem.W.get_bind I1.kIn J (PySem.W.plainGet_of (cl.get fld)).1 (PySem.W.findObj_data hC hp.at_ hp.get hp.tak) (PySem.W.plainGet_of (cl.get fld)).2 (wpAny_call (PySem.W.prop_get (s := { s1 with toks := s1.toks + 1 }) I1.kIn hrec ?_))
    refine codeAny_mono (G.run X.A.in1 X.stack { s1 with toks := s1.toks + 1 } H1 ⟨[.ref a], []⟩ [.ref a] [.ref a] Q E0 hr.in1 hgd I2.env0.in1 bt (.cons rfl .nil) (spF_use (ds := [y]) hi.2 e1 r1 (.cons dv .nil) hf hq)) fun z s' hz => ?_
    match z, hz with
    | .ok (.ret u), hz =>
      obtain ⟨v, H', I3, rv, q3⟩ := I2.after hz
      show wpAny _ _ (handedOut u) _ _ _; rw [PySem.W.handedOut_of (handed_of rv)]; exact wpAny_pure ⟨v, H', I3, rv, q3⟩
  · cases hf
/-- o.f op= e, whole numbers -/
def fFldAug (c : Nat) (fld : Str) (h : Int → Int → Int) (fo fv : FE) : FS := fun env M => bnd (fo env M) fun d M1 => match d with
  | .loc n => match M1[n]? with
    | some (.ins c' fs) => if c' = c then match fs.lookup fld with
        | some (.int i) => bnd (fv env M1) fun y M2 => match y with
          | .int j => match M2[n]? with
            | some (.ins c2 fs2) => if c2 = c ∧ fs2.length < 1000 then some (.nx env, M2.set n (.ins c (putD fld (.int (h i j)) fs2))) else none
            | _ => none
          | _ => none
        | _ => none
      else none
    | _ => none
  | _ => none
def rI2 (h : Int → Int → Int) : V → V → Hp → VK → Prop := fun x y H Q => ∃ i j, x = .int i ∧ y = .int j ∧ Q (.int (h i j)) H
theorem ia_add : InOp X .Add (rI2 fun i j => i + j) := in_add
theorem ia_sub : InOp X .Sub (rI2 fun i j => i - j) := in_sub
theorem ss_fldaug {op : Operator} {h : Int → Int → Int} (ho : SE X ct o fo) (hv : SE X ct v' fv) (hop : InOp X op (rI2 h)) (hc : ct c = some C) (cl : Cls X.K C) (na : NoAttr X.K C fld) :
    SS X ct (.AugAssign (.Attribute o fld pos') op v' pos) (fFldAug c fld h fo fv) :=
  PS.imp (ps_fldaug ho hv hop) fun D σ H ⟨ρ, M, env, r, he, fl, M', hf, hq⟩ => by
    obtain ⟨d, M1, h1, hf⟩ := bnd_some hf
    refine ⟨ρ, M, env, r, he, d, M1, h1, fun ρ1 H1 e1 r1 v dv => ?_⟩
    split at hf
    · split at hf
      · rename_i hm
        split at hf
        · rename_i hcc
          subst hcc
          split at hf
          · rename_i i hy
            obtain ⟨y, M2, h2, hf⟩ := bnd_some hf
            split at hf
            · rename_i j
              split at hf
              · rename_i hm2
                split at hf
                · rename_i hc2
                  cases hf
                  obtain ⟨hc2, hl⟩ := hc2
                  subst hc2
                  obtain ⟨a, C', dx, vfs, rfl, a1, a2, a3, a4⟩ := r1.ins hm dv
                  rw [hc] at a2; cases a2
                  obtain ⟨u, u1, u2⟩ := a4.look.1 _ hy
                  cases u2
                  refine ⟨a, C, dx, vfs, _, rfl, a3, cl, na, u1, ρ1, M1, env, r1, he.mono e1, _, M2, h2, fun ρ2 H2 e2 r2 w dw => ?_⟩
                  cases dw
                  obtain ⟨a', C', dx', vfs', ea', b1, b2, b3, b4⟩ := r2.ins hm2 (dv.mono e2)
                  cases ea'
                  rw [hc] at b2; cases b2
                  have xs : Ext X.K ρ2 H2 ρ2 (upd H2 a (.ins C dx' (putF fld (.int (h i j)) vfs'))) := Ext.soft (fun _ _ z => z) (fun _ q => by rw [b3] at q; cases q) fun _ _ q => by rw [b3] at q; cases q
                  obtain ⟨r3, e3⟩ := r2.put (o := .ins _ (putD fld (.int (h i j)) _)) (o' := .ins C dx' (putF fld (.int (h i j)) vfs')) b1 b3 ⟨C, dx', _, hc, upd_same, (b4.put (.int _)).mono xs⟩
                  exact ⟨i, j, rfl, rfl, dx', vfs', b3, by rw [← b4.length]; exact hl, hq ρ2 _ ((e1.trans e2).trans e3) r3 σ (((he.mono e1).mono e2).mono e3)⟩
                · cases hf
              · cases hf
            · cases hf
          · cases hf
        · cases hf
      · cases hf
    · cases hf
end
/-! ### sets of texts -/
def dedS (xs : List Str) : List Str := xs.foldl (fun acc x => if x ∈ acc then acc else acc ++ [x]) []
theorem dedS_snoc {xs : List Str} {x : Str} : dedS (xs ++ [x]) = if x ∈ dedS xs then dedS xs else dedS xs ++ [x] := by
  unfold dedS
  rw [List.foldl_append]; rfl
theorem dedS_len : ∀ n (xs : List Str), xs.length = n → (dedS xs).length ≤ n
  | 0, xs, h => by rw [List.length_eq_zero_iff.mp h]; exact Nat.le_refl _
  | n + 1, xs, h => by
    obtain ⟨ys, y, rfl⟩ : ∃ ys y, xs = ys ++ [y] := ⟨xs.dropLast, xs.getLast (by intro z; rw [z] at h; cases h), (List.dropLast_concat_getLast _).symm⟩
    have h2 : ys.length = n := by simpa using h
    have := dedS_len n ys h2
    rw [dedS_snoc]
    split
    · omega
    · simp; omega
abbrev memS (ys : List Str) : Key → Bool := fun k => ys.any fun x => decide (k = Sum.inr x)
theorem memS_str {ys : List Str} {x : Str} : memS ys (Sum.inr x) = decide (x ∈ ys) := by
  induction ys with
  | nil => rfl
  | cons y ys ih =>
    show (decide ((Sum.inr x : Key) = Sum.inr y) || memS ys (Sum.inr x)) = _
    rw [ih]
    by_cases e : x = y
    · subst e; simp
    · simp [e]
theorem setK_eq {P : Program} {w : World} {h : Heap} {a : Addr} {S S' : Key → Bool} {n n' : Nat} (hS : h.SetOf (mixKind P w) a S n) (e : ∀ k, S k = S' k) (en : n = n') : h.SetOf (mixKind P w) a S' n' := by
  cases en; cases (funext e : S = S'); exact hS
section
variable {prog : Program} {w : World} {A : Around} {R : Result → Shared → Prop} {it : Addr} {fp wr : List Addr} {G : Array GenState → Array GenState → Prop} {n : Nat} {P : Nat → Value → Prop} {St : Nat → Shared → Prop}
theorem set_texts (W : WalksS prog w A.in1 it fp wr G n P St) (z : Addr) (hz : z ∉ fp) (xs : List Str) (hn : xs.length = n) (hb : n + 1 < scanBound) (hv : ∀ i v, P i v → ∃ x t, xs[i]? = some x ∧ v = .str x t) :
    ∀ (k i : Nat) (s : Shared), n - i = k → i ≤ n → St i s → s.heap.SetOf (mixKind prog w) z (memS (dedS (xs.take i))) (dedS (xs.take i)).length →
      (∀ s', Moved (z :: wr) G s s' → s'.heap.SetOf (mixKind prog w) z (memS (dedS xs)) (dedS xs).length → R (.ok (.ret .none)) s') →
      codeAny (model prog w) A (.builtin "set.update.loop" ⟨[.ref z, .ref it], []⟩) R s := by
  have zw : z ∉ wr := fun q => hz (W.sub _ q)
  have up : ∀ b ∈ wr, b ∈ z :: wr := fun b q => List.mem_cons_of_mem _ q
  intro k
  induction k with
  | zero =>
    intro i s hk hi st S0 fin
    obtain rfl : i = n := by omega
    refine codeAny_builtin PyProof.Rows.F.entry_set_update_loop ?_; rw [Around.under_plainId PyProof.Rows.F.plain_set_update_loop _]
    show wpAny _ A.in1 (pyNext (.ref it) >>= _) _ _ s
    refine wpAny_bind (W.done s _ _ st fun s' m => ?_)
    show wpAny _ A.in1 (ret Value.none) _ _ s'
    rw [← hn, List.take_length] at S0
    exact wpAny_pure (fin s' (m.mono up) (setOf_at S0 fun o q => m.heap z o zw q))
  | succ k ih =>
    intro i s hk hi st S0 fin
    have lt : i < n := by omega
    refine codeAny_builtin PyProof.Rows.F.entry_set_update_loop ?_; rw [Around.under_plainId PyProof.Rows.F.plain_set_update_loop _]
    show wpAny _ A.in1 (pyNext (.ref it) >>= _) _ _ s
    refine wpAny_bind (W.item i s _ _ lt st fun v s' pv st' m => ?_)
    obtain ⟨x, t, ex, rfl⟩ := hv i v pv
    have S1 := setOf_at S0 fun o q => m.heap z o zw q
    show wpAny _ A.in1 (holding [Value.str x t] (setAdd z (.str x t)) >>= _) _ _ s'
    refine wpAny_bind (wpAny_holding ?_); unfold setAdd
    refine wpAny_holding (wpAny_bind ((mixKind prog w).pyHash (k := Sum.inr x) (mixKind_str prog w x t) ?_))
    have few := dedS_len i (xs.take i) (by rw [List.length_take]; omega)
    refine wpAny_setAddHashed_of (knd := mixKind prog w) (s := { s' with toks := s'.toks + 1 }) (mixKind_str prog w x t) rfl S1 (by omega) fun h' sb S2 => ?_
    have S3 : h'.SetOf (mixKind prog w) z (memS (dedS (xs.take (i + 1)))) (dedS (xs.take (i + 1))).length := by
      have et : xs.take (i + 1) = xs.take i ++ [x] := by rw [List.take_add_one, ex]; rfl
      rw [et, dedS_snoc]
      rw [memS_str] at S2
      by_cases hm : x ∈ dedS (xs.take i)
      · rw [if_pos hm]
        rw [decide_eq_true hm, if_pos rfl] at S2
        refine setK_eq S2 (fun j => ?_) rfl
        by_cases e : j = Sum.inr x
        · subst e
          rw [memS_str, decide_eq_true hm]; rfl
        · rw [decide_eq_false e, Bool.or_false]
      · rw [if_neg hm]
        rw [decide_eq_false hm, if_neg (by decide)] at S2
        refine setK_eq S2 (fun j => ?_) (by simp)
        show _ = (dedS (xs.take i) ++ [x]).any _
        rw [List.any_append]
        simp
    refine wpAny_pure ⟨plainId_quiet PyProof.Rows.F.plain_set_update_loop _, ih (i + 1) _ (by omega) lt (W.frame _ s' _ _ st' (Nat.le_succ _) fun b q o e => ?_) S3 fun s2 m2 S4 => ?_⟩
    · rw [sb.2 b (fun y : b = z => hz (y ▸ q))]; exact e
    · refine fin s2 (Moved.trans W.gtrans ((m.mono up).then_heap (Nat.le_succ _) fun b o q e => ?_) m2) S4
      rw [sb.2 b (fun y : b = z => q (y ▸ List.mem_cons_self))]; exact e
end
section
variable {prog : Program} {w : World} {A : Around} {E : Value → Shared → Prop} {s : Shared}
set_option maxHeartbeats 8000000 in
/-- set(a tuple of texts) -/
theorem call_set_texts {l : Addr} {its : Array Value} {xs : List Str} {Q : Value → Shared → Prop} (hh : A.handled = none) (hl : s.heap.IsTuple l its) (hs : its.size = xs.length) (hi : ∀ (i : Nat) v, its[i]? = some v → ∃ x t, xs[i]? = some x ∧ v = .str x t) (hb : xs.length + 1 < scanBound)
    (k : ∀ (h' : Heap) (tk : Nat), h'.SetOf (mixKind prog w) s.heap.objs.size (memS (dedS xs)) (dedS xs).length → (∀ b o, b < s.heap.objs.size → s.heap.get? b = some o → h'.get? b = some o) → Q (.ref s.heap.objs.size) { s with heap := h', toks := tk }) :
    wpAny (model prog w) A (call (.type "set") [.ref l]) Q E s := by
  obtain ⟨c, tl, z1⟩ := PySem.F.called_set.mro
  have z2 := PySem.F.called_set.made; have z3 := PySem.F.called_set.sub; have z4 := PySem.F.called_set.notType; have z5 := PySem.F.called_set.canCreate; have z6 := PySem.F.typeCall_set_1 (.ref l)
  refine wpAny_call (codeAny_of_tree ?_); show wpAny _ _ (callAny (.type "set") _) _ _ _
  refine wpAny_pure ⟨Code.quiet_builtin _ (by decide +kernel), codeAny_builtin PySem.F.entry_type_call ?_⟩; rw [Around.under_plain (weight_type_call_type "set" [.ref l] []) rfl]
  repeat (any_goals (first | assumption | wp_step))
  refine codeAny_mono (code_set_new_1 (.ref l) (E := E) (Q₁ := fun y s1 => ∃ led : Bool, y = .ref s.heap.objs.size ∧ s1 = { s with heap := s.heap.push { cls := .type "set", dict := none, data := .set #[] 0 (.fresh 0 0 led) } }) fun led => ⟨led, rfl, rfl⟩) fun r s1 hr => ?_
  match r, hr with
  | .error e, hr => exact hr
  | .ok (.ret y), hr =>
    obtain ⟨led, rfl, rfl⟩ := hr
    have g0 : (s.heap.push { cls := .type "set", dict := none, data := .set #[] 0 (.fresh 0 0 led) }).get? s.heap.objs.size = some { cls := .type "set", dict := none, data := .set #[] 0 (.fresh 0 0 led) } := Heap.get?_push_size _ rfl
    have tS : Shared.TypeIs { s with heap := s.heap.push { cls := .type "set", dict := none, data := .set #[] 0 (.fresh 0 0 led) } } (.ref s.heap.objs.size) "set" := ⟨_, g0, rfl⟩
    have z7 := PySem.F.called_set.init.lookup; have z8 := PySem.F.called_set.init.bind (.ref s.heap.objs.size)
    repeat (any_goals (first | assumption | wp_step))
    refine codeAny_mono (codeAny_call_builtin (R := wants (fun r s2 => r = .none ∧ ∃ h' tk, s2 = { s with heap := h', toks := tk } ∧ h'.SetOf (mixKind prog w) s.heap.objs.size (memS (dedS xs)) (dedS xs).length ∧ (∀ b o, b < s.heap.objs.size → s.heap.get? b = some o → h'.get? b = some o)) E) PySem.F.called_set.init.plain PySem.F.entry_set_init (check_set_init_1 tS ?_)) fun r2 s2 hr2 => ?_
    · obtain ⟨⟨oc, od, odata, os⟩, ho, q1, nl, q2⟩ := hl
      simp only at q1 q2
      subst q1; subst q2
      have g1 : (s.heap.push { cls := .type "set", dict := none, data := .set #[] 0 (.fresh 0 0 led) }).get? l = some { cls := .type "tuple", dict := od, data := .seq its nl, slots := os } := Heap.get?_push_of_some _ ho
      have y1 := PySem.F.sub_tuple_set; have y2 := PySem.F.sub_tuple_frozenset
      have y3 : (Value.type "tuple" == Value.type "dict") = false := by decide
      have l1 : (s.heap.push { cls := .type "set", dict := none, data := .set #[] 0 (.fresh 0 0 led) }).IsTuple l its := ⟨_, g1, rfl, nl, rfl⟩
      unfold Builtin.«set.__init__» noKeywords Builtin.Frozenset.updateFrom; generalize hPI : pyIter = PI; wp_walk; subst hPI
      refine wpAny_pyIter_tuple l1 ?_
      refine wpAny_bind (wpAny_runValue ?_)
      have lS : l < s.heap.objs.size := Heap.lt_size ho
      have h3 : A.in1.in1.in1.handled = none := by simp [hh]
      have sz : (s.heap.push { cls := .type "set", dict := none, data := .set #[] 0 (.fresh 0 0 led) }).objs.size = s.heap.objs.size + 1 := Heap.size_push ..
      have ne : l ≠ (s.heap.push { cls := .type "set", dict := none, data := .set #[] 0 (.fresh 0 0 led) }).objs.size := by rw [sz]; exact Nat.ne_of_lt (Nat.lt_succ_of_lt lS)
      have nf : s.heap.objs.size ∉ [(s.heap.push { cls := .type "set", dict := none, data := .set #[] 0 (.fresh 0 0 led) }).objs.size, l] := by
        rw [sz]; simp only [List.mem_cons, List.not_mem_nil, or_false, not_or]; exact ⟨Nat.ne_of_lt (Nat.lt_succ_self _), Nat.ne_of_gt lS⟩
      refine set_texts ((Walks.tuple h3 _ l ne its).toS) s.heap.objs.size nf xs hs.symm (by omega) hi (its.size - 0) 0 _ (by omega) (Nat.zero_le _) ⟨⟨_, Heap.get?_push_size _ rfl, rfl, rfl⟩, (l1.push _)⟩ ?xa ?xb
      case xa =>
        have g2 : ((s.heap.push { cls := .type "set", dict := none, data := .set #[] 0 (.fresh 0 0 led) }).push { cls := .type "tuple_iterator", data := .fields #[.ref l, .int 0 0] }).get? s.heap.objs.size = some { cls := .type "set", dict := none, data := .set #[] 0 (.fresh 0 0 led) } := Heap.get?_push_of_some _ g0
        have fr : Heap.SetOf (mixKind prog w) _ s.heap.objs.size (fun _ => false) 0 := ⟨_, #[], 0, _, g2, ⟨rfl, rfl, rfl⟩, rfl, fun e he => by simp at he, fun k => by simp, by decide, by rfl, rfl⟩
        exact setK_eq fr (fun _ => rfl) rfl
      case xb =>
        intro s' m S'
        obtain ⟨h', g', d', tk', os'⟩ := s'
        obtain rfl : g' = s.gens := m.gens
        obtain rfl : d' = s.drawn := m.drawn
        obtain rfl : os' = s.os := m.os
        show wpAny _ _ _ _ _ _
        refine wpAny_pure ?_
        show wpAny _ _ (ret Value.none) _ _ _
        refine wpAny_pure ⟨rfl, h', tk', rfl, S', fun b o hb' e => ?_⟩
        exact m.heap b o (by rw [sz]; simp only [List.mem_cons, List.not_mem_nil, or_false, not_or]; exact ⟨Nat.ne_of_lt hb', Nat.ne_of_lt (Nat.lt_succ_of_lt hb')⟩) (Heap.get?_push_of_some _ (Heap.get?_push_of_some _ e))
    · match r2, hr2 with
      | .error e, hr2 => exact hr2
      | .ok (.ret y), hr2 =>
        obtain ⟨rfl, h', tk, rfl, S', keep⟩ := hr2
        repeat (any_goals (first | assumption | wp_step))
        exact k _ _ S' keep
end
end Zl

/-! text Z24 -/
namespace Zl
open PySem L2 PySem.Spec PyProof.Rows
def strsOf : List Dv → Option (List Str)
  | [] => some []
  | .str x :: ds => match strsOf ds with
    | some xs => some (x :: xs)
    | none => none
  | _ :: _ => none
theorem strsOf_eq : ∀ {ds : List Dv} {xs : List Str}, strsOf ds = some xs → ds = xs.map .str
  | [], xs, h => by cases h; rfl
  | d :: ds, xs, h => by
    unfold strsOf at h
    split at h
    · contradiction
    · rename_i x r e
      split at h
      · rename_i ys hy
        cases h
        cases e
        rw [strsOf_eq hy]; rfl
      · cases h
    · cases h
theorem strsOf_map : ∀ xs : List Str, strsOf (xs.map .str) = some xs
  | [] => rfl
  | x :: xs => by
    show (match strsOf (xs.map .str) with | some ys => some (x :: ys) | none => none) = _
    rw [strsOf_map xs]
theorem vs_strs {K : Frg} {ρ : List Addr} {H : Hp} : ∀ {xs : List Str} {vs : List V}, DVs K ρ H (xs.map .str) vs → vs = xs.map V.str
  | [], _, h => by cases h; rfl
  | x :: xs, _, h => by
    cases h with
    | cons a b =>
      cases a
      rw [vs_strs b]; rfl
theorem vals_strs : ∀ {xs : List Str} {us : List Value} {i : Nat} {u : Value}, Vals (xs.map V.str) us → us[i]? = some u → ∃ x t, xs[i]? = some x ∧ u = .str x t
  | [], _, i, u, h, e => by cases h; simp at e
  | x :: xs, _, 0, u, h, e => by
    cases h with
    | cons a b =>
      simp at e
      subst e
      obtain ⟨t, rfl⟩ := a
      exact ⟨x, t, rfl, rfl⟩
  | x :: xs, _, i + 1, u, h, e => by
    cases h with
    | cons a b =>
      obtain ⟨y, t, h1, h2⟩ := vals_strs (i := i) b (by simpa using e)
      exact ⟨y, t, by simpa using h1, h2⟩
def setOfE : List Dv → Mem → Rz
  | [.tup ys], M => match strsOf ys with
    | some xs => if xs.length < 4000 then some (.loc M.length, M ++ [.sk (dedS xs)]) else none
    | none => none
  | ds, M => setOfD ds M
section
variable {X : Cx} {ct : Ct}
theorem sc_setE (hc : X.calm = true) (hp : ct.prg = X.prog := by rfl) (hw : ct.wd = X.w := by rfl) : SC X ct (.type "set") setOfE := by
  intro pins s σ H xs us Q I rv h
  obtain ⟨ρ, M, ds, r, dv, z, M', hf, hq⟩ := h
  unfold setOfE at hf
  split at hf
  · split at hf
    · rename_i ws hx
      split at hf
      · rename_i hl
        cases hf
        have hy := strsOf_eq hx
        subst hy
        obtain ⟨v, rfl, d1⟩ := dvs_one dv
        cases d1 with
        | @tup _ vs l td dd =>
          have hv := vs_strs dd
          subst hv
          obtain ⟨u, rfl, ru⟩ := vals1 rv
          cases ru
          obtain ⟨its, rvv, pl, hz⟩ := I.tuple td.sq
          have hlen : its.length = ws.length := by have := rvv.length; simpa using this.symm
          have hn : H s.heap.objs.size = none := I.hok.fresh (Nat.le_refl _)
          refine call_set_texts (xs := ws) (I.ok.hd hc) (its := its.toArray) pl (by simpa using hlen) (fun i v e => vals_strs rvv (by simpa using e)) (by
            have h4 : 4001 < scanBound := by decide
            omega) fun h' tk R keep => ?_
          obtain ⟨r2, e2, h2⟩ := r.new (o := .sk (dedS ws)) (o' := SetK X.prog X.w s.heap.objs.size (memS (dedS ws)) (dedS ws).length) hn (by
            show upd H _ _ _ = some (SetK ct.prg ct.wd _ _ _)
            rw [hp, hw]; exact upd_same)
          exact ⟨.ref s.heap.objs.size, _, I.laid (o := SetK X.prog X.w s.heap.objs.size (memS (dedS ws)) (dedS ws).length) (t' := tk) (fun b u e => keep b u (Heap.lt_size e) e) (Nat.le_refl _) (setK_new R), rfl, hq _ _ e2 r2 _ (.loc h2)⟩
      · cases hf
    · cases hf
  · exact sc_set hc pins s σ H xs us Q I rv ⟨ρ, M, _, r, dv, z, M', hf, hq⟩
/-- sorted(xs, reverse=True), where xs is in that order -/
def downB : List Int → Bool
  | [] => true
  | x :: xs => xs.all (fun y => decide (y ≤ x)) && downB xs
theorem down_pw : ∀ {xs : List Int}, downB xs = true → xs.Pairwise (· ≥ ·)
  | [], _ => .nil
  | x :: xs, h => by
    unfold downB at h
    rw [Bool.and_eq_true, List.all_eq_true] at h
    exact .cons (fun y hy => of_decide_eq_true (h.1 y hy)) (down_pw h.2)
def fSortR (fa : FE) : FE := fun env M => bnd (fa env M) fun d M1 => match d with
  | .loc n => match M1[n]? with
    | some (.lst ys) => match intsOf ys with
      | some is => if downB is then some (.loc M1.length, M1 ++ [.lst ys]) else none
      | none => none
    | _ => none
  | _ => none
theorem se_sortR {e : Expr} {fa : FE} {p p2 kpos pos : Pos} (hg : Gl X "sorted") (hm : X.mg "sorted" = none) (ha : SE X ct e fa)
    (hst : starEach [e] X.env = (false, eval e X.env) :: starEach [] X.env := by rfl) (he : backTo pos (starEach [e] X.env) = (false, eval e X.env) :: backTo pos (starEach [] X.env) := by rfl) (hpl : (backTo pos (starEach [e] X.env)).any (·.1) = false := by rfl) :
    SE X ct (.Call (.Name "sorted" p) [e] [⟨some "reverse", .Constant (.bool true) 0 p2, kpos⟩] pos) (fSortR fa) :=
  PE.imp (pe_callBK (cr_sortedRev (b := true)) hg hm (by decide +kernel) (pa_cons ha pa_nil hst) (pk_cons pe_bl pk_nil) (he := he) (hpl := hpl)) fun σ H Q ⟨ρ, M, env, r, hen, d, M', hf, hq⟩ => by
    obtain ⟨x, M1, h1, hf⟩ := bnd_some hf
    refine ⟨ρ, M, env, r, hen, x, M1, h1, fun ρ1 H1 e1 r1 v dv => ?_⟩
    split at hf
    · split at hf
      · rename_i ys hm
        split at hf
        · rename_i is hi
          split at hf
          · rename_i hd
            cases hf
            have hy := intsOf_eq hi
            subst hy
            obtain ⟨l, vs, rfl, a1, hH, a3⟩ := r1.lst hm dv
            have hv := vs_ints a3
            subst hv
            refine ⟨l, is, rfl, rfl, SqL.of hH, fun ns' q hP hO hn => ?_⟩
            have hO' : ns'.Pairwise (· ≥ ·) := hO
            have e := List.Perm.eq_of_pairwise (le := fun a b : Int => a ≥ b) (fun a b _ _ h1 h2 => Int.le_antisymm h2 h1) hO' (down_pw hd) hP
            subst e
            obtain ⟨r2, e2, h2⟩ := r1.newL hn a3
            exact hq _ _ (e1.trans e2) r2 _ (.loc h2)
          · cases hf
        · cases hf
      · cases hf
    · cases hf
end
end Zl

/-! text Z25 -/
namespace Zl
open PySem L2 PySem.Spec PyProof.Rows
/-! ## {e for t in xs if c}, texts -/
section
variable {X : Cx}
/-- the new set stands at D -/
def tScK (P : Program) (w : World) (wi : TI) (g : TG) (tt : TT) (te : TE) (vs : List Nat) : TE := fun σ H Q => wi σ H fun J H1 => ∀ D, H1 D = none → ∃ W : Nat → Nat → Hp → Prop, (∃ m, W 0 m (upd H1 D (SetK P w D (memS []) 0))) ∧ ∀ i m H, W i m H →
  (J.stop i H ∧ Q (.ref D) H) ∨ (J.go i H ∧ ∃ Nx : Hp → Prop, (∀ H', Nx H' → ∃ m', m' < m ∧ W (i + 1) m' H') ∧ ∀ x H', J.yld i H x H' → g x (wipe σ vs) H' fun σ2 H2 => wipe σ2 vs = wipe σ vs ∧ tt σ2 H2 fun b H3 =>
    if b = true then te σ2 H3 fun y H4 => ∃ (c : Str) (S : Key → Bool) (n : Nat), y = .str c ∧ H4 D = some (SetK P w D S n) ∧ n + 1 < scanBound ∧ Nx (upd H4 D (SetK P w D (fun j => S j || decide (j = Sum.inr c)) (if S (Sum.inr c) = true then n else n + 1))) else Nx H3)
theorem scK_core {pins : List (Addr × Obj)} {s : Shared} {σ : L2.St} {H : Hp} {Q : VK} {elt tg iter : Expr} {ifs : List Expr} {scope : Scope} {own : List (Str × Nat)} {pos pos' : Pos} {wi : TI} {g : TG} {tt : TT} {te : TE} {Qf : Value → Shared → Prop}
    (hc : X.calm = true) (hN : X.N.Nodup) (I : Inv X pins σ H s) (hi : PI X tg iter wi) (ok : BlkOk X.N X.env.scope scope own)
    (hg : ∀ s H C cl fp, PG (Cx.cb X scope s H C cl fp) tg g) (ht : ∀ s H C cl fp, PTs (Cx.cb X scope s H C cl fp) ifs tt) (he : ∀ s H C cl fp, PE (Cx.cb X scope s H C cl fp) elt te) (hs : ∀ x, foldedSetIterable iter X.env x = pure x)
    (h : tScK X.prog X.w wi g tt te (own.map (·.2)) σ H Q)
    (fin0 : ∀ D C s' m H', Inv X pins σ H' s' → Q (.ref D) H' → s'.heap.Ns C m → FpOk X pins H' C → compPost (model X.prog X.w) X.A X.xe none Qf (.ref D) C (.ok .next) s') :
    wpAny (model X.prog X.w) X.A (comprehension (.SetComp elt [⟨tg, iter, ifs, 0⟩] scope pos) scope X.env pos' (newSet (.type "set")) false (eval iter X.env) none) Qf X.xe s := by
  have fr : ∀ y ∈ scope.names, y.2 = .free → ∃ c, X.env.cells.lookup y.1 = some c := fun y hy e => (ok.free y hy e).elim (fun k => I.ok.has _ (.inl k)) fun k => I.ok.has _ (.inr k)
  refine wpAny_comprehension_free (use := none) rfl hs (closure_ok fr) ok.kind (fun y hy e => by rw [ok.uniq y hy, e]) (thn (hi.run pins s σ H _ I h) fun xv t1 hx => thn hx fun itv t2 z => ?_)
  obtain ⟨it, fp, tn, J, B2, e, J2, T, u2, v2, q⟩ := z
  subst e
  refine PpSet.newSet_ok (newEnv_comp ?_)
  generalize eD : t2.heap.objs.size = D
  obtain ⟨W, ⟨m0, w0⟩, turn⟩ := q D (J2.hok.fresh (Nat.le_of_eq eD))
  generalize e3 : ({ t2 with heap := t2.heap.push { cls := .type "set", dict := none, data := .set #[] 0 (.fresh 0 0 (!X.w.params.followText "set-order")) } } : Shared) = t3
  have hp3 : t3.heap = t2.heap.push { cls := .type "set", dict := none, data := .set #[] 0 (.fresh 0 0 (!X.w.params.followText "set-order")) } := by rw [← e3]
  have J3 : Inv X pins σ (upd B2 D (SetK X.prog X.w D (memS []) 0)) t3 := by
    rw [← e3]
    refine J2.laid (t' := t2.toks) (fun b o e => Heap.get?_push_of_some _ e) (Nat.le_of_eq eD) ?_
    rw [← eD]
    exact setK_new ⟨_, #[], 0, _, Heap.get?_push_size _ rfl, ⟨rfl, rfl, rfl⟩, rfl, fun e he => by simp at he, fun k => by simp, by decide, by rfl, rfl⟩
  have lo : ∀ b ∈ fp, b < t2.heap.objs.size := fun b hb => by obtain ⟨o, e, _⟩ := T.obj _ _ u2 b hb; exact Heap.lt_size e
  have f3 : ∀ b ∈ fp, FpOk X pins (upd B2 D (SetK X.prog X.w D (memS []) 0)) b ∧ b < t3.heap.objs.size := fun b hb => ⟨⟨by rw [upd_ne (by rw [← eD]; exact Nat.ne_of_lt (lo b hb))]; exact (v2 b hb).1, (v2 b hb).2⟩, by rw [hp3, Heap.size_push]; exact Nat.lt_succ_of_lt (lo b hb)⟩
  have u3 : tn 0 t3.heap := T.keep _ _ _ u2 fun b _ o e => by rw [hp3]; exact Heap.get?_push_of_some _ e
  have J4 := block_start J3 ok hN f3
  generalize ecl : cellsFrom (t3.heap.objs.size + 1) scope.names (cloFrom X.env.cells scope.names []) = cl at J4 ⊢
  have pg : PG (X.blk t3 (upd B2 D (SetK X.prog X.w D (memS []) 0)) scope (compEnvC scope cl t3.heap.objs.size X.env) fp) tg g := hg t3 _ _ cl fp
  have pt : PTs (X.blk t3 (upd B2 D (SetK X.prog X.w D (memS []) 0)) scope (compEnvC scope cl t3.heap.objs.size X.env) fp) ifs tt := ht t3 _ _ cl fp
  have pe : PE (X.blk t3 (upd B2 D (SetK X.prog X.w D (memS []) 0)) scope (compEnvC scope cl t3.heap.objs.size X.env) fp) elt te := he t3 _ _ cl fp
  have nf : ∀ b ∈ fp, (upd B2 D (SetK X.prog X.w D (memS []) 0)) b = none := fun b hb => (f3 b hb).1.1
  subst ecl
  show codeAny _ _ (.compStart (.SetComp elt [⟨tg, iter, ifs, 0⟩] scope pos) 0 (.ref it) (.ref D) (compEnvC scope (cellsFrom (t3.heap.objs.size + 1) scope.names (cloFrom X.env.cells scope.names [])) t3.heap.objs.size X.env)) (compPost (model X.prog X.w) X.A X.xe none Qf (.ref D) t3.heap.objs.size) { t3 with heap := pushCells (t3.heap.push { cls := .type "dict", data := .dict #[] }) scope.names }
  generalize hce : compEnvC scope (cellsFrom (t3.heap.objs.size + 1) scope.names (cloFrom X.env.cells scope.names [])) t3.heap.objs.size X.env = ce at J4 pg pt pe ⊢
  have cL : ce.locals = t3.heap.objs.size := by subst hce; rfl
  generalize eB3 : upd B2 D (SetK X.prog X.w D (memS []) 0) = B3 at J3 J4 pg pt pe w0 nf f3
  generalize e4 : ({ t3 with heap := pushCells (t3.heap.push { cls := .type "dict", data := .dict #[] }) scope.names } : Shared) = t4 at J4 ⊢
  have u4 : tn 0 t4.heap := T.keep _ _ _ u3 fun b _ o e => by rw [← e4]; exact pushCells_keeps _ _ _ _ (Heap.get?_push_of_some _ e)
  have fpo : ∀ {σ' : L2.St} {H' : Hp} {s' : Shared}, Inv (X.blk t3 B3 scope ce fp) [] σ' H' s' → (∀ b ∈ fp, H' b = none) → ∀ b ∈ fp, FpOk (X.blk t3 B3 scope ce fp) [] H' b := fun {σ' H' s'} K hn b hb =>
    ⟨hn b hb, (K.ok.exf b hb).1, K.ok.exfs b hb, .inl hb, fun x c e => (K.ok.exf b hb).2 x c e, fun p hp => absurd (show p ∈ ([] : List (Addr × Obj)) ++ [] from hp) (by simp)⟩
  have loop : codeAny (model X.prog X.w) X.A (.compLoop (.SetComp elt [⟨tg, iter, ifs, 0⟩] scope pos) 0 (.ref it) (.ref D) ce) (compPost (model X.prog X.w) X.A X.xe none Qf (.ref D) t3.heap.objs.size) t4 := by
    refine PpSet.compLoopS_any (fun n s' => ∃ i H', Inv (X.blk t3 B3 scope ce fp) [] (wipe σ (own.map (·.2))) H' s' ∧ tn i s'.heap ∧ (∀ b ∈ fp, H' b = none) ∧ W i n H') ?_ m0 ⟨0, B3, J4, u4, nf, w0⟩
    rintro n t5 ⟨i, B5, J5, u5, n5, w5⟩
    rcases turn i n B5 w5 with ⟨stop, qq⟩ | ⟨go, Nx, hNx, step⟩
    · refine thnF (T.done (X.blk t3 B3 scope ce fp) rfl rfl rfl hc i [] t5 _ B5 (fun _ _ => False) J5 (fpo J5 n5) u5 stop) fun r t6 z => ?_
      obtain ⟨rfl, J6⟩ := z
      have J7 : Inv X pins σ B5 t6 := J3.call' (ch := fp) J6.os J6.base J6.hok J6.bare fun b hb => ⟨(f3 b hb).1.2.2.2.1, (f3 b hb).1.2.1, (f3 b hb).1.2.2.2.2.1, (f3 b hb).1.2.2.2.2.2⟩
      have nC : B5 t3.heap.objs.size = none := cL ▸ (show B5 ce.locals = none from J6.free)
      obtain ⟨m, hn, _⟩ := J6.loc
      have hn : t6.heap.Ns t3.heap.objs.size m := cL ▸ (show t6.heap.Ns ce.locals m from hn)
      exact fin0 D t3.heap.objs.size t6 m B5 J7 qq hn (J3.fpOk (Nat.le_refl _) nC)
    · refine thnF (T.item (X.blk t3 B3 scope ce fp) rfl rfl rfl hc i [] t5 _ B5 (fun _ _ => False) J5 (fpo J5 n5) u5 go) fun r t6 z => ?_
      obtain ⟨u, rfl, h6⟩ := z
      refine thnF h6 fun _ t7 ⟨x, B7, J7, r7, y7, u7, n7⟩ => ?_
      refine thnF (pg.run _ t7 _ B7 x u _ (J7.pinned (fpo J7 n7) (T.obj _ _ u7)) r7 (step x B7 y7)) fun _ t8 ⟨σ8, B8, J8, w8, q8⟩ => ?_
      refine thnF (pt.run _ t8 σ8 B8 _ J8 q8) fun b t9 ⟨B9, J9, q9⟩ => ?_
      have done : ∀ {s' : Shared} {H' : Hp}, Inv (X.blk t3 B3 scope ce fp) ([] ++ pinsAt fp t7.heap) σ8 H' s' → Nx H' → ∃ m, m < n ∧ ∃ i H', Inv (X.blk t3 B3 scope ce fp) [] (wipe σ (own.map (·.2))) H' s' ∧ tn i s'.heap ∧ (∀ b ∈ fp, H' b = none) ∧ W i m H' := fun {s' H'} K nx => by
        obtain ⟨m', hm, w'⟩ := hNx H' nx
        have pn : ∀ b ∈ fp, ∀ o, t7.heap.get? b = some o → s'.heap.get? b = some o ∧ H' b = none := fun b hb o e => have z := K.pin (b, o) (List.mem_append_right _ (List.mem_append_right _ (mem_pinsAt hb e))); ⟨z.1, z.2.1⟩
        refine ⟨m', hm, i + 1, H', (K.unpinned (pins := [])).weak (by rw [← w8, wipe_length]) (fun j v e => ?_), T.keep _ _ _ u7 fun b hb o e => (pn b hb o e).1, fun b hb => ?_, w'⟩
        · rw [← w8] at e; exact (wipe_some e).1
        · obtain ⟨o, e, _⟩ := T.obj _ _ u7 b hb; exact (pn b hb o e).2
      cases b with
      | false => simp only [Bool.false_eq_true, if_false] at q9 ⊢; exact done J9 q9
      | true =>
        simp only [if_true] at q9 ⊢
        refine thnF (pe.run _ t9 σ8 B9 _ J9 q9) fun z t10 ⟨yv, B10, J10, r10, cb, S0, n0, ey, d10, z10, nx⟩ => ?_
        subst ey
        exact thnF (mt_saddK (X := X.blk t3 B3 scope ce fp) _ t10 σ8 B10 (.ref D) [kV (Sum.inr cb)] (.ref D) [z] (fun _ H' => Nx H') J10 rfl (.cons r10 .nil) ⟨D, Sum.inr cb, S0, n0, rfl, rfl, d10, z10, nx⟩) fun _ t11 ⟨_, B11, J11, _, nx'⟩ => done J11 nx'
  exact PpSet.codeAny_compStart_set loop (T.self X.A 0 _ _ _ u4 loop)
theorem pe_scK {elt tg iter : Expr} {ifs : List Expr} {scope : Scope} {own : List (Str × Nat)} {pos : Pos} {wi : TI} {g : TG} {tt : TT} {te : TE} (hc : X.calm = true) (hN : X.N.Nodup) (hi : PI X tg iter wi) (ok : BlkOk X.N X.env.scope scope own)
    (hg : ∀ s H C cl fp, PG (Cx.cb X scope s H C cl fp) tg g) (ht : ∀ s H C cl fp, PTs (Cx.cb X scope s H C cl fp) ifs tt) (he : ∀ s H C cl fp, PE (Cx.cb X scope s H C cl fp) elt te) (hs : ∀ x, foldedSetIterable iter X.env x = pure x := by intro _; rfl) :
    PE X (.SetComp elt [⟨tg, iter, ifs, 0⟩] scope pos) (tScK X.prog X.w wi g tt te (own.map (·.2))) := by
  refine ⟨fun pins s σ H Q I h => ?_⟩
  rw [PpSet.eval_SetComp]
  refine scK_core hc hN I hi ok hg ht he hs h fun D C s' m H' I' q hn f => ⟨m, hn, fun h2 sb => ?_⟩
  obtain ⟨f0, f1, f2, f3, f4, f5⟩ := f
  exact ⟨.ref D, H', I'.turned (t' := s'.toks) (fun b o hb e => (sb.2 b hb).trans e) f0 f1 f3 f4 f5, rfl, q⟩
end
/-- the turns: the new set stands at cell n -/
def compSF (it : Stp) (g : FG) (ft : FT) (fe : FE) (e0 : En) (n : Nat) : Nat → Nat → Mem → Option Mem
  | 0, i, M => match it i M with
    | some none => some M
    | _ => none
  | k + 1, i, M => match it i M with
    | some none => some M
    | some (some d) => match g d e0 M with
      | some (e1, M1) => match ft e1 M1 with
        | some (true, M2) => match fe e1 M2 with
          | some (.str y, M3) => match M3[n]? with
            | some (.sk acc) => if acc.length < 4000 then compSF it g ft fe e0 n k (i + 1) (M3.set n (.sk (if y ∈ acc then acc else acc ++ [y]))) else none
            | _ => none
          | _ => none
        | some (false, M2) => compSF it g ft fe e0 n k (i + 1) M2
        | none => none
      | none => none
    | none => none
def fCompS (fi : FI) (vs : List Nat) (g : FG) (ft : FT) (fe : FE) : FE := fun env M => bnd (fi env M) fun src M1 =>
  match compSF src.stp g ft fe (wipeE env vs) M1.length src.many 0 (M1 ++ [.sk []]) with
  | some M2 => some (.loc M1.length, M2)
  | none => none
section
variable {X : Cx} {ct : Ct} {tg iter : Expr} {pos : Pos} {fe : FE} {fi : FI} {g : FG}
theorem sk_put {ys : List Str} {y : Str} : (fun j : Key => memS ys j || decide (j = Sum.inr y)) = memS (if y ∈ ys then ys else ys ++ [y]) := by
  funext j
  by_cases h : y ∈ ys
  · rw [if_pos h]
    by_cases e : j = Sum.inr y
    · subst e
      rw [memS_str, decide_eq_true h]; rfl
    · rw [decide_eq_false e, Bool.or_false]
  · rw [if_neg h]
    show _ = (ys ++ [y]).any _
    rw [List.any_append]
    simp
theorem sk_len {ys : List Str} {y : Str} : (if memS ys (Sum.inr y) = true then ys.length else ys.length + 1) = (if y ∈ ys then ys else ys ++ [y]).length := by
  rw [memS_str]
  by_cases h : y ∈ ys
  · simp [h]
  · simp [h]
theorem sc_imp {vs : List Nat} {ft : FT} {σ : L2.St} {H : Hp} {Q : VK} (hp : ct.prg = X.prog) (hw : ct.wd = X.w) (w : tE X.K ct (fCompS fi vs g ft fe) σ H Q) : tScK X.prog X.w (tI X.K ct fi) (tG X.K ct vs g) (tT X.K ct ft) (tE X.K ct fe) vs σ H Q := by
  obtain ⟨ρ, M, env, r, he, d, M', hf, hq⟩ := w
  obtain ⟨src, M1, h1, hf⟩ := bnd_some hf
  split at hf
  · rename_i M2 hc
    cases hf
    refine ⟨ρ, M, env, r, he, src, M1, h1, fun ρ0 H0 e0 r0 J hJ D hD => ?_⟩
    obtain ⟨rN, xN, aN⟩ := r0.new (o := .sk []) (o' := SetK X.prog X.w D (memS []) 0) hD (by
      show upd H0 _ _ _ = some (SetK ct.prg ct.wd _ _ _)
      rw [hp, hw]; exact upd_same)
    refine ⟨fun i m H => ∃ ρ M, Ext X.K ρ0 H0 ρ H ∧ Rl X.K ct ρ M H ∧ ρ[M1.length]? = some D ∧ compSF src.stp g ft fe (wipeE env vs) M1.length m i M = some M' ∧ Aft X.K ct ρ H M' fun ρ' H' => ∀ v, DV X.K ρ' H' (.loc M1.length) v → Q v H',
      ⟨src.many, ρ0 ++ [D], _, xN, rN, aN, hc, (hq.later e0).later xN⟩, ?_⟩
    rintro i m H ⟨ρ, M, x0, r, aD, hf, hq⟩
    have hj := hJ i ρ M H x0 r
    have he' := ((he.mono e0).mono x0).wipe vs
    cases q : src.stp i M with
    | none =>
      cases m with
      | zero => rw [compSF, q] at hf; cases hf
      | succ m => rw [compSF, q] at hf; cases hf
    | some o =>
      rw [q] at hj
      cases o with
      | none =>
        have e : some M = some M' := by
          cases m with
          | zero => rw [compSF, q] at hf; exact hf
          | succ m => rw [compSF, q] at hf; exact hf
        cases e
        exact .inl ⟨hj, hq ρ H .refl r _ (.loc aD)⟩
      | some d =>
        cases m with
        | zero => rw [compSF, q] at hf; cases hf
        | succ m =>
          rw [compSF, q] at hf
          dsimp only at hf
          refine .inr ⟨hj.1, fun H' => ∃ ρ M, Ext X.K ρ0 H0 ρ H' ∧ Rl X.K ct ρ M H' ∧ ρ[M1.length]? = some D ∧ compSF src.stp g ft fe (wipeE env vs) M1.length m (i + 1) M = some M' ∧ Aft X.K ct ρ H' M' fun ρ' H' => ∀ v, DV X.K ρ' H' (.loc M1.length) v → Q v H',
            fun H' n => ⟨m, Nat.lt_succ_self m, n⟩, fun x H' hy => ?_⟩
          obtain ⟨y1, y2, y3⟩ := hj.2 x H' hy
          split at hf
          · rename_i e1 N1 g1
            refine ⟨ρ, M, wipeE env vs, d, y2, he'.mono y1, y3, e1, N1, g1, fun ρ1 H1 x1 r1 σ1 en1 oe => ⟨wipe_eq oe, ?_⟩⟩
            split at hf
            · rename_i N2 g2
              refine ⟨ρ1, N1, e1, r1, en1, true, N2, g2, fun ρ2 H2 x2 r2 => ?_⟩
              dsimp only
              rw [if_pos rfl]
              split at hf
              · rename_i y N3 g3
                refine ⟨ρ2, N2, e1, r2, en1.mono x2, _, N3, g3, fun ρ3 H3 x3 r3 v dv => ?_⟩
                cases dv
                split at hf
                · rename_i acc hm
                  split at hf
                  · rename_i hl
                    have xx := ((y1.trans x1).trans x2).trans x3
                    have aD3 := xx.pre _ _ aD
                    obtain ⟨b, eb, b1, b2⟩ := r3.sk hm (.loc aD3)
                    cases eb
                    rw [hp, hw] at b2
                    obtain ⟨r4, x4⟩ := r3.put (o := .sk (if y ∈ acc then acc else acc ++ [y])) (o' := SetK X.prog X.w D (memS (if y ∈ acc then acc else acc ++ [y])) (if y ∈ acc then acc else acc ++ [y]).length) aD3 b2 (by
                      show upd H3 _ _ _ = some (SetK ct.prg ct.wd _ _ _)
                      rw [hp, hw]; exact upd_same)
                    have hs : 4001 < scanBound := by decide
                    refine ⟨y, memS acc, acc.length, rfl, b2, by omega, ?_⟩
                    rw [sk_put, sk_len]
                    exact ⟨ρ3, _, (x0.trans xx).trans x4, r4, aD3, hf, hq.later (xx.trans x4)⟩
                  · cases hf
                · cases hf
              · cases hf
            · rename_i N2 g2
              refine ⟨ρ1, N1, e1, r1, en1, false, N2, g2, fun ρ2 H2 x2 r2 => ?_⟩
              dsimp only
              rw [if_neg (by decide)]
              have xx := (y1.trans x1).trans x2
              exact ⟨ρ2, N2, x0.trans xx, r2, xx.pre _ _ aD, hf, hq.later xx⟩
            · cases hf
          · cases hf
  · cases hf
theorem se_compS {elt : Expr} {ifs : List Expr} {scope : Scope} {own : List (Str × Nat)} {ft : FT} (hc : X.calm = true) (hN : X.N.Nodup) (hi : SI X ct tg iter fi) (ok : BlkOk X.N X.env.scope scope own)
    (hg : ∀ s H C cl fp, SG (Cx.cb X scope s H C cl fp) ct (own.map (·.2)) tg g) (ht : ∀ s H C cl fp, STs (Cx.cb X scope s H C cl fp) ct ifs ft)
    (he : ∀ s H C cl fp, SE (Cx.cb X scope s H C cl fp) ct elt fe) (hs : ∀ x, foldedSetIterable iter X.env x = pure x := by intro _; rfl) (hp : ct.prg = X.prog := by rfl) (hw : ct.wd = X.w := by rfl) : SE X ct (.SetComp elt [⟨tg, iter, ifs, 0⟩] scope pos) (fCompS fi (own.map (·.2)) g ft fe) :=
  PE.imp (pe_scK hc hN hi ok hg ht he hs) fun _ _ _ w => sc_imp hp hw w
end
end Zl

/-! text Z26 -/
namespace Zl
open PySem L2 PySem.Spec PyProof.Rows
/-! ## sorted(set(a list of whole numbers)) -/
section
variable {P : Program} {w : World} {A : Around} {E : Value → Shared → Prop} {s : Shared}
set_option maxHeartbeats 8000000 in
theorem call_set_ints {l : Addr} {its : Array Value} {xs : List Int} {Q : Value → Shared → Prop} (hh : A.handled = none) (hl : s.heap.IsList l its) (hs : its.size = xs.length) (hi : ∀ (i : Nat) v, its[i]? = some v → ∃ k t, xs[i]? = some k ∧ v = .int k t) (hb : xs.length + 1 < scanBound)
    (k : ∀ (h' : Heap) (tk c : Nat), SetR w h' s.heap.objs.size (fun j => decide (j ∈ xs)) c → c ≤ xs.length → (∀ b o, b < s.heap.objs.size → s.heap.get? b = some o → h'.get? b = some o) → Q (.ref s.heap.objs.size) { s with heap := h', toks := tk }) :
    wpAny (model P w) A (call (.type "set") [.ref l]) Q E s := by
  obtain ⟨c, tl, z1⟩ := PySem.F.called_set.mro
  have z2 := PySem.F.called_set.made; have z3 := PySem.F.called_set.sub; have z4 := PySem.F.called_set.notType; have z5 := PySem.F.called_set.canCreate; have z6 := PySem.F.typeCall_set_1 (.ref l)
  refine wpAny_call (codeAny_of_tree ?_); show wpAny _ _ (callAny (.type "set") _) _ _ _
  refine wpAny_pure ⟨Code.quiet_builtin _ (by decide +kernel), codeAny_builtin PySem.F.entry_type_call ?_⟩; rw [Around.under_plain (weight_type_call_type "set" [.ref l] []) rfl]
  repeat (any_goals (first | assumption | wp_step))
  refine codeAny_mono (code_set_led1 (.ref l) (E := E) (Q₁ := fun y s1 => y = .ref s.heap.objs.size ∧ s1 = { s with heap := s.heap.push { cls := .type "set", dict := none, data := .set #[] 0 (.fresh 0 0 (!w.params.followText "set-order")) } }) ⟨rfl, rfl⟩) fun r s1 hr => ?_
  match r, hr with
  | .error e, hr => exact hr
  | .ok (.ret y), hr =>
    obtain ⟨rfl, rfl⟩ := hr
    have g0 : (s.heap.push { cls := .type "set", dict := none, data := .set #[] 0 (.fresh 0 0 (!w.params.followText "set-order")) }).get? s.heap.objs.size = some { cls := .type "set", dict := none, data := .set #[] 0 (.fresh 0 0 (!w.params.followText "set-order")) } := Heap.get?_push_size _ rfl
    have tS : Shared.TypeIs { s with heap := s.heap.push { cls := .type "set", dict := none, data := .set #[] 0 (.fresh 0 0 (!w.params.followText "set-order")) } } (.ref s.heap.objs.size) "set" := ⟨_, g0, rfl⟩
    have z7 := PySem.F.called_set.init.lookup; have z8 := PySem.F.called_set.init.bind (.ref s.heap.objs.size)
    repeat (any_goals (first | assumption | wp_step))
    refine codeAny_mono (codeAny_call_builtin (R := wants (fun r s2 => r = .none ∧ ∃ h' tk c, s2 = { s with heap := h', toks := tk } ∧ SetR w h' s.heap.objs.size (fun j => decide (j ∈ xs)) c ∧ c ≤ xs.length ∧ (∀ b o, b < s.heap.objs.size → s.heap.get? b = some o → h'.get? b = some o)) E) PySem.F.called_set.init.plain PySem.F.entry_set_init (check_set_init_1 tS ?_)) fun r2 s2 hr2 => ?_
    · obtain ⟨⟨oc, od, odata, os⟩, ho, q1, nl, q2⟩ := hl
      simp only at q1 q2
      subst q1; subst q2
      have g1 : (s.heap.push { cls := .type "set", dict := none, data := .set #[] 0 (.fresh 0 0 (!w.params.followText "set-order")) }).get? l = some { cls := .type "list", dict := od, data := .seq its nl, slots := os } := Heap.get?_push_of_some _ ho
      have y1 := PySem.F.sub_list_set; have y2 := PySem.F.sub_list_frozenset
      have y3 : (Value.type "list" == Value.type "dict") = false := by decide
      have l1 : (s.heap.push { cls := .type "set", dict := none, data := .set #[] 0 (.fresh 0 0 (!w.params.followText "set-order")) }).IsList l its := ⟨_, g1, rfl, nl, rfl⟩
      unfold Builtin.«set.__init__» noKeywords Builtin.Frozenset.updateFrom; generalize hPI : pyIter = PI; wp_walk; subst hPI
      refine wpAny_pyIter_list l1 ?_
      refine wpAny_bind (wpAny_runValue ?_)
      have lS : l < s.heap.objs.size := Heap.lt_size ho
      have h3 : A.in1.in1.in1.handled = none := by simp [hh]
      have sz : (s.heap.push { cls := .type "set", dict := none, data := .set #[] 0 (.fresh 0 0 (!w.params.followText "set-order")) }).objs.size = s.heap.objs.size + 1 := Heap.size_push ..
      have ne : l ≠ (s.heap.push { cls := .type "set", dict := none, data := .set #[] 0 (.fresh 0 0 (!w.params.followText "set-order")) }).objs.size := by rw [sz]; exact Nat.ne_of_lt (Nat.lt_succ_of_lt lS)
      have nf : s.heap.objs.size ∉ [(s.heap.push { cls := .type "set", dict := none, data := .set #[] 0 (.fresh 0 0 (!w.params.followText "set-order")) }).objs.size, l] := by
        rw [sz]; simp only [List.mem_cons, List.not_mem_nil, or_false, not_or]; exact ⟨Nat.ne_of_lt (Nat.lt_succ_self _), Nat.ne_of_gt lS⟩
      refine set_update_ints ((Walks.list h3 _ l ne its).toS) s.heap.objs.size nf xs hs hb hi (its.size - 0) 0 _ (by omega) (Nat.zero_le _) ⟨⟨_, Heap.get?_push_size _ rfl, rfl, rfl⟩, (l1.push _)⟩ ?xa ?xb
      case xa =>
        have g2 : ((s.heap.push { cls := .type "set", dict := none, data := .set #[] 0 (.fresh 0 0 (!w.params.followText "set-order")) }).push { cls := .type "list_iterator", data := .fields #[.ref l, .int 0 0] }).get? s.heap.objs.size = some { cls := .type "set", dict := none, data := .set #[] 0 (.fresh 0 0 (!w.params.followText "set-order")) } := Heap.get?_push_of_some _ g0
        exact ⟨0, Nat.le_refl 0, setR_new_at g2⟩
      case xb =>
        intro s' c' m hc' S'
        obtain ⟨h', g', d', tk', os'⟩ := s'
        obtain rfl : g' = s.gens := m.gens
        obtain rfl : d' = s.drawn := m.drawn
        obtain rfl : os' = s.os := m.os
        show wpAny _ _ _ _ _ _
        refine wpAny_pure ?_
        show wpAny _ _ (ret Value.none) _ _ _
        refine wpAny_pure ⟨rfl, h', tk', c', rfl, S', hs ▸ hc', fun b o hb' e => ?_⟩
        exact m.heap b o (by rw [sz]; simp only [List.mem_cons, List.not_mem_nil, or_false, not_or]; exact ⟨Nat.ne_of_lt hb', Nat.ne_of_lt (Nat.lt_succ_of_lt hb')⟩) (Heap.get?_push_of_some _ (Heap.get?_push_of_some _ e))
    · match r2, hr2 with
      | .error e, hr2 => exact hr2
      | .ok (.ret y), hr2 =>
        obtain ⟨rfl, h', tk, c2, rfl, S', hc2, keep⟩ := hr2
        repeat (any_goals (first | assumption | wp_step))
        exact k _ _ _ S' hc2 keep
end
def rSetL (K : Frg) (w : World) : List V → Hp → VK → Prop := fun xs H Q => ∃ (a : Addr) (ns : List Int), xs = [.ref a] ∧ SqL K H a (ns.map V.int) ∧ ns.length < 63 ∧ ∀ p n, n ≤ ns.length → H p = none → Q (.ref p) (upd H p (SetO w p (fun j => decide (j ∈ ns)) n))
section
variable {X : Cx} {ct : Ct}
theorem cr_setL (hc : X.calm = true) : CallR X (.type "set") (rSetL X.K X.w) := by
  intro pins s σ H xs us Q I rv h
  obtain ⟨a, ns, rfl, hq, hl, q⟩ := h
  obtain ⟨u, rfl, ru⟩ := vals1 rv
  cases ru
  obtain ⟨its, rvv, pl, hz⟩ := I.list hq
  have hlen : its.length = ns.length := by have := rvv.length; simpa using this.symm
  have hn : H s.heap.objs.size = none := I.hok.fresh (Nat.le_refl _)
  have hia : IntsAre its ns := intsAre_of rvv
  refine call_set_ints (xs := ns) (I.ok.hd hc) pl.isList (by simpa using hlen) (fun i v e => ?_) (by
    have h4 : 4001 < scanBound := by decide
    omega) fun h' tk c R hc' keep => ?_
  · have e' : its[i]? = some v := by simpa using e
    have hi : i < ns.length := by rw [← hlen]; exact (List.getElem?_eq_some_iff.mp e').1
    obtain ⟨t, ev⟩ := PyProof.Rows.IntsAre.int_at hia i v e'
    refine ⟨ns[i], t, List.getElem?_eq_getElem hi, ?_⟩
    rw [ev, List.getD_eq_getElem?_getD, List.getElem?_eq_getElem hi]; rfl
  · exact ⟨.ref s.heap.objs.size, _, I.laid (o := SetO X.w s.heap.objs.size (fun j => decide (j ∈ ns)) c) (t' := tk) (fun b u e => keep b u (Heap.lt_size e) e) (Nat.le_refl _) (setO_new R), rfl, q _ _ hc' hn⟩
/-- the numbers, ascending, each once -/
def insI (x : Int) : List Int → List Int
  | [] => [x]
  | y :: ys => if x < y then x :: y :: ys else if x = y then y :: ys else y :: insI x ys
def sortI (ns : List Int) : List Int := ns.foldr insI []
theorem ins_mem {x k : Int} : ∀ {ys : List Int}, k ∈ insI x ys ↔ k = x ∨ k ∈ ys
  | [] => by simp [insI]
  | y :: ys => by
    unfold insI
    split
    · simp
    · split
      · rename_i h; subst h; simp
      · rw [List.mem_cons, ins_mem, List.mem_cons]
        constructor
        · rintro (h | h | h)
          · exact .inr (.inl h)
          · exact .inl h
          · exact .inr (.inr h)
        · rintro (h | h | h)
          · exact .inr (.inl h)
          · exact .inl h
          · exact .inr (.inr h)
theorem ins_pw {x : Int} : ∀ {ys : List Int}, ys.Pairwise (· < ·) → (insI x ys).Pairwise (· < ·)
  | [], _ => List.pairwise_singleton _ _
  | y :: ys, h => by
    obtain ⟨h1, h2⟩ := List.pairwise_cons.mp h
    unfold insI
    split
    · rename_i hx
      exact .cons (fun z hz => by
        rcases List.mem_cons.mp hz with e | hz
        · rw [e]; exact hx
        · have := h1 z hz; omega) h
    · split
      · exact h
      · refine .cons (fun z hz => ?_) (ins_pw h2)
        rcases ins_mem.mp hz with e | hz
        · omega
        · exact h1 z hz
theorem sort_mem {k : Int} : ∀ {ns : List Int}, k ∈ sortI ns ↔ k ∈ ns
  | [] => Iff.rfl
  | n :: ns => by
    show k ∈ insI n (sortI ns) ↔ _
    rw [ins_mem, sort_mem, List.mem_cons]
theorem sort_pw : ∀ {ns : List Int}, (sortI ns).Pairwise (· < ·)
  | [] => .nil
  | n :: ns => ins_pw (sort_pw (ns := ns))
theorem sort_uniq {as bs : List Int} (ha : as.Pairwise (· < ·)) (hb : bs.Pairwise (· < ·)) (h : ∀ k, k ∈ as ↔ k ∈ bs) : as = bs := by
  have na : as.Nodup := ha.imp fun h e => by omega
  have nb : bs.Nodup := hb.imp fun h e => by omega
  exact List.Perm.eq_of_pairwise (le := fun a b : Int => a < b) (fun a b _ _ h1 h2 => by omega) ha hb ((List.perm_ext_iff_of_nodup na nb).mpr h)
def fSortSet (fa : FE) : FE := fun env M => bnd (fa env M) fun d M1 => match d with
  | .loc n => match M1[n]? with
    | some (.lst ys) => match intsOf ys with
      | some is => if is.length < 60 then some (.loc M1.length, M1 ++ [.lst ((sortI is).map .int)]) else none
      | none => none
    | _ => none
  | _ => none
theorem dvs_mapI {K : Frg} {ρ : List Addr} {H : Hp} : ∀ ns : List Int, DVs K ρ H (ns.map Dv.int) (ns.map V.int)
  | [] => .nil
  | n :: ns => .cons (.int n) (dvs_mapI ns)
theorem se_sortSet {e : Expr} {fa : FE} {p p2 pos pos2 : Pos} (hc : X.calm = true) (hg : Gl X "sorted") (hm : X.mg "sorted" = none) (hg2 : Gl X "set") (hm2 : X.mg "set" = none) (ha : SE X ct e fa)
    (h1 : starEach [e] X.env = (false, eval e X.env) :: starEach [] X.env := by rfl)
    (h2 : starEach [.Call (.Name "set" p2) [e] [] pos2] X.env = (false, eval (.Call (.Name "set" p2) [e] [] pos2) X.env) :: starEach [] X.env := by rfl) :
    SE X ct (.Call (.Name "sorted" p) [.Call (.Name "set" p2) [e] [] pos2] [] pos) (fSortSet fa) :=
  PE.imp (pe_callB (cr_sortedSet hc) hg hm (by decide +kernel) (pa_cons (pe_callTy (cr_setL hc) hg2 hm2 (by decide +kernel) (pa_cons ha pa_nil h1) (he := h1)) pa_nil h2) (he := h2)) fun σ H Q ⟨ρ, M, env, r, hen, d, M', hf, hq⟩ => by
    obtain ⟨x, M1, q1, hf⟩ := bnd_some hf
    refine ⟨ρ, M, env, r, hen, x, M1, q1, fun ρ1 H1 e1 r1 v dv => ?_⟩
    split at hf
    · split at hf
      · rename_i ys hm
        split at hf
        · rename_i is hi
          split at hf
          · rename_i hl
            cases hf
            have hy := intsOf_eq hi
            subst hy
            obtain ⟨l, vs, rfl, a1, hH, a3⟩ := r1.lst hm dv
            have hv := vs_ints a3
            subst hv
            refine ⟨l, is, rfl, SqL.of hH, by omega, fun pa n hn hpa => ?_⟩
            have x2 := Ext.fresh (K := X.K) (ρ := ρ1) (o' := SetO X.w pa (fun j => decide (j ∈ is)) n) hpa
            refine ⟨pa, _, n, rfl, upd_same, by omega, fun ns' q hP hM hL hq' => ?_⟩
            have e := sort_uniq hP (sort_pw (ns := is)) fun k => by rw [hM, sort_mem]; simp
            subst e
            obtain ⟨r3, e3, h3⟩ := (r1.tup hpa (SetO X.w pa (fun j => decide (j ∈ is)) n)).newL hq' (dvs_mapI (sortI is))
            exact hq _ _ ((e1.trans x2).trans e3) r3 _ (.loc h3)
          · cases hf
        · cases hf
      · cases hf
    · cases hf
end
end Zl

/-! text Z27 -/
namespace Zl
open PySem L2 PySem.Spec PyProof.Rows

/-! ## targets that are attributes -/
def gFldH (K : PySem.W.Frag) (to : TE) (f : Str) : TG := fun v σ H Q => to σ H fun x H1 => ∃ a C dx fs, x = .ref a ∧ H1 a = some (.ins C dx fs) ∧ L2.Cls K C ∧ L2.NoAttr K C f ∧ fs.length < 1000 ∧ Q σ (upd H1 a (.ins C dx (putF f v fs)))
theorem pg_fldH {X : Cx} {o : Expr} {f : Str} {to : TE} {pos : Pos} (ho : PE X o to) : PG X (.Attribute o f pos) (gFldH X.K to f) := by
  refine ⟨fun pins s σ H v u Q I r h => ?_⟩
  rw [show assign (.Attribute o f pos) X.env u = (do
    let ov ← holding [u] (eval o X.env)
    standAt pos.atName
    holding [u, ov] (setAttr ov f u)
    release [u, ov] []) from rfl]
  refine wpAny_bind (wpAny_holding (thn (ho.run pins s σ H _ I h) fun ov s1 ⟨x, H1, I1, r1, a, C, dx, fs, ex, ea, c, n, l, q⟩ => ?_))
  subst ex
  obtain rfl : ov = Value.ref a := r1
  refine wpAny_bind (wpAny_standAt (wpAny_bind (wpAny_holding (setattr_ok I1 ea c n l r fun s3 I3 => ?_))))
  exact wpAny_release ⟨σ, _, I3, q⟩
section
variable {X : Cx} {ct : Ct} {pos : Pos} {e o : Expr} {fo fe : FE} {C : Addr}
def gFld (c : Nat) (fld : Str) (fo : FE) : FG := fun d env M => bnd (fo env M) fun x M1 => match x with
  | .loc n => match M1[n]? with
    | some (.ins c' fs) => if c' = c ∧ fs.length < 1000 then some (env, M1.set n (.ins c (putD fld d fs))) else none
    | _ => none
  | _ => none
theorem sg_fld {ws : List Nat} {c : Nat} {fld : Str} (ho : SE X ct o fo) (hc : ct c = some C) (cl : L2.Cls X.K C) (na : L2.NoAttr X.K C fld) : SG X ct ws (.Attribute o fld pos) (gFld c fld fo) :=
  PG.imp (pg_fldH ho) fun v σ H Q ⟨ρ, M, env, d, r, he, dv, env', M', hf, hq⟩ => by
    obtain ⟨x, M1, h1, hf⟩ := bnd_some hf
    refine ⟨ρ, M, env, r, he, x, M1, h1, fun ρ1 H1 e1 r1 w dw => ?_⟩
    split at hf
    · split at hf
      · rename_i hm
        split at hf
        · rename_i hcc
          cases hf
          obtain ⟨hcc, hl⟩ := hcc
          subst hcc
          obtain ⟨a, C', dx, vfs, rfl, a1, a2, a3, a4⟩ := r1.ins hm dw
          rw [hc] at a2; cases a2
          have xs : Ext X.K ρ1 H1 ρ1 (upd H1 a (.ins C dx (putF fld v vfs))) := Ext.soft (fun _ _ z => z) (fun _ q => by rw [a3] at q; cases q) fun _ _ q => by rw [a3] at q; cases q
          obtain ⟨r3, e3⟩ := r1.put (o := .ins _ (putD fld d _)) (o' := .ins C dx (putF fld v vfs)) a1 a3 ⟨C, dx, _, hc, upd_same, (a4.put (dv.mono e1)).mono xs⟩
          exact ⟨a, C, dx, vfs, rfl, a3, cl, na, by rw [← a4.length]; exact hl, hq ρ1 _ (e1.trans e3) r3 σ ((he.mono e1).mono e3) .refl⟩
        · cases hf
      · cases hf
    · cases hf
end
/-! ## list(dict) -/
def keyDv : Key → Dv
  | .inl i => .int i
  | .inr x => .str x
theorem keyDv_dv {K : Frg} {ρ : List Addr} {H : Hp} (k : Key) : DV K ρ H (keyDv k) (kV k) := by
  cases k with
  | inl i => exact .int i
  | inr x => exact .str x
def keysDv (kvs : List (Key × Dv)) : List Dv := kvs.map fun p => keyDv p.1
theorem keysDv_dvs {K : Frg} {ρ : List Addr} {H : Hp} : ∀ {kvs : List (Key × Dv)} {vs : List (Key × V)}, kvs.map (·.1) = vs.map (·.1) → DVs K ρ H (keysDv kvs) (vs.map fun p => kV p.1)
  | [], [], _ => .nil
  | [], _ :: _, e => by cases e
  | _ :: _, [], e => by cases e
  | p :: kvs, q :: vs, e => by
    simp only [List.map_cons, List.cons.injEq] at e
    show DVs K ρ H (keyDv p.1 :: keysDv kvs) (kV q.1 :: vs.map fun p => kV p.1)
    rw [← e.1]
    exact .cons (keyDv_dv _) (keysDv_dvs e.2)
def lstF : List Dv → Mem → Rz
  | [.loc n], M => match M[n]? with
    | some (.dct kvs) => if kvs.length ≤ 1000 then some (.loc M.length, M ++ [.lst (keysDv kvs)]) else none
    | _ => lstE [.loc n] M
  | ds, M => lstE ds M
section
variable {X : Cx} {ct : Ct}
theorem sc_listF (hc : X.calm = true) : SC X ct (.type "list") lstF := by
  intro pins s σ H xs us Q I rv h
  obtain ⟨ρ, M, ds, r, dv, z, M', hf, hq⟩ := h
  unfold lstF at hf
  split at hf
  · split at hf
    · rename_i kvs hm
      split at hf
      · rename_i hl
        cases hf
        obtain ⟨v, rfl, d1⟩ := dvs_one dv
        obtain ⟨a, vs, rfl, a1, a2, a3, a4⟩ := r.dct hm d1
        refine call_listD hc pins s σ H _ us Q I rv ⟨a, vs, rfl, .inl a2, fun p hp => ?_⟩
        obtain ⟨r2, e2, h2⟩ := r.newL (vs := vs.map fun kv => kV kv.1) hp (keysDv_dvs a3)
        exact hq _ _ e2 r2 _ (.loc h2)
      · cases hf
    · exact sc_listE hc pins s σ H xs us Q I rv ⟨ρ, M, _, r, dv, z, M', hf, hq⟩
  · exact sc_listE hc pins s σ H xs us Q I rv ⟨ρ, M, _, r, dv, z, M', hf, hq⟩
end
/-! ## for over a dict's keys: the dict is locked meanwhile -/
def okU : HO → Bool
  | .tup _ => false
  | .lst _ => false
  | .frz _ _ => false
  | _ => true
section
variable {K : Frg} {ρ : List Addr} {H : Hp} {a : Addr} {od : Obj} {uu : HO}
theorem sqT_open {b : Addr} {vs : List V} (hl : H a = some (.frz od uu)) (hu : okU uu = true) (h : SqT K H b vs) : SqT K (upd H a uu) b vs := by
  rcases h with (h | ⟨o, h⟩) | h
  · have ne : b ≠ a := fun e => by subst e; rw [hl] at h; cases h
    exact .inl (.inl (by rw [upd_ne ne]; exact h))
  · have ne : b ≠ a := fun e => by subst e; rw [hl] at h; cases h; cases hu
    exact .inl (.inr ⟨o, by rw [upd_ne ne]; exact h⟩)
  · exact .inr h
theorem tupD_open {b : Addr} {vs : List V} (hl : H a = some (.frz od uu)) (hu : okU uu = true) (h : TupD K H b vs) : TupD K (upd H a uu) b vs := by
  rcases h with ⟨o, h, z⟩ | h
  · have ne : b ≠ a := fun e => by subst e; rw [hl] at h; cases h; cases hu
    exact .inl ⟨o, by rw [upd_ne ne]; exact h, z⟩
  · exact .inr h
theorem sqF_open {b : Addr} {vs : List V} (hl : H a = some (.frz od uu)) (hu : okU uu = true) (h : SqF K H b vs) : SqF K (upd H a uu) b vs := by
  rcases h with ⟨o, h⟩ | h
  · have ne : b ≠ a := fun e => by subst e; rw [hl] at h; cases h; cases hu
    exact .inl ⟨o, by rw [upd_ne ne]; exact h⟩
  · exact .inr h
mutual
theorem DV.opn (hl : H a = some (.frz od uu)) (hu : okU uu = true) : ∀ {d : Dv} {v : V}, DV K ρ H d v → DV K ρ (upd H a uu) d v
  | _, _, .non => .non
  | _, _, .bl b => .bl b
  | _, _, .int i => .int i
  | _, _, .str x => .str x
  | _, _, .tup h r => .tup (tupD_open hl hu h) (DVs.opn hl hu r)
  | _, _, .pr h r => .pr (sqT_open hl hu h) (DVs.opn hl hu r)
  | _, _, .loc h => .loc h
  | _, _, .rol h r => .rol (sqF_open hl hu h) (DVs.opn hl hu r)
  | _, _, .ty n => .ty n
theorem DVs.opn (hl : H a = some (.frz od uu)) (hu : okU uu = true) : ∀ {ds : List Dv} {vs : List V}, DVs K ρ H ds vs → DVs K ρ (upd H a uu) ds vs
  | _, _, .nil => .nil
  | _, _, .cons h r => .cons (DV.opn hl hu h) (DVs.opn hl hu r)
end
theorem EnOk.opn {env : En} {σ : L2.St} (hl : H a = some (.frz od uu)) (hu : okU uu = true) (h : EnOk K ρ H env σ) : EnOk K ρ (upd H a uu) env σ :=
  ⟨h.1, fun i d q => let ⟨v, h1, h2⟩ := h.2 i d q; ⟨v, h1, h2.opn hl hu⟩⟩
theorem ObOk.opn {ct : Ct} {b : Addr} {o : Ob} (hl : H a = some (.frz od uu)) (hu : okU uu = true) (ne : b ≠ a) (h : ObOk K ct ρ H b o) : ObOk K ct ρ (upd H a uu) b o := by
  have q : upd H a uu b = H b := upd_ne ne
  cases o with
  | lst ds => obtain ⟨vs, h1, h2⟩ := h; exact ⟨vs, q.trans h1, h2.opn hl hu⟩
  | ins c fs => obtain ⟨C, dx, vfs, h0, h1, h2⟩ := h; exact ⟨C, dx, vfs, h0, q.trans h1, h2.1, h2.2.opn hl hu⟩
  | dct kvs => obtain ⟨vs, h1, h2, h3⟩ := h; exact ⟨vs, q.trans h1, h2, h3.opn hl hu⟩
  | dcn kvs => obtain ⟨xs, vs, h1, h2, h3, h4, h5, h6⟩ := h; exact ⟨xs, vs, q.trans h1, h2, h3, h4.opn hl hu, h5.opn hl hu, h6⟩
  | st xs => exact q.trans h
  | sk xs => exact q.trans h
  | lck => obtain ⟨o, u, h1⟩ := h; exact ⟨o, u, q.trans h1⟩
  | lckN kvs => obtain ⟨od', xs, vs, h1, h2, h3, h4, h5, h6⟩ := h; exact ⟨od', xs, vs, q.trans h1, h2, h3, h4.opn hl hu, h5.opn hl hu, h6⟩
/-- the dict is as it was again -/
theorem Rl.opn {ct : Ct} {M : Mem} {n : Nat} {kv : List (Key × V)} {kvs : List (Key × Dv)} (r : Rl K ct ρ M H) (hn : ρ[n]? = some a) (hl : H a = some (.frz od (.dK kv))) (hk : kvs.map (·.1) = kv.map (·.1)) (hv : DVs K ρ H (kvs.map (·.2)) (kv.map (·.2))) :
    Rl K ct ρ (M.set n (.dct kvs)) (upd H a (.dK kv)) := by
  refine ⟨by simp [r.len], r.nd, fun m x hx => ?_⟩
  by_cases hmn : n = m
  · subst hmn
    rw [List.getElem?_set, if_pos rfl] at hx
    split at hx
    · cases hx
      exact ⟨a, hn, kv, upd_same, hk, hv.opn hl rfl⟩
    · cases hx
  · rw [List.getElem?_set_ne hmn] at hx
    obtain ⟨b, h1, h2⟩ := r.ok m x hx
    refine ⟨b, h1, h2.opn hl rfl fun e => ?_⟩
    subst e
    obtain ⟨i1, e1⟩ := List.getElem?_eq_some_iff.mp h1
    obtain ⟨i2, e2⟩ := List.getElem?_eq_some_iff.mp hn
    exact hmn ((List.getElem_inj r.nd).mp (e2.trans e1.symm))
/-- from ahead of the lock to behind it -/
theorem ext_opn {ρ2 : List Addr} {H2 : Hp} (hd : H a = some uu) (hu : okU uu = true) (x : Ext K ρ (upd H a (.frz od uu)) ρ2 H2) (hl : H2 a = some (.frz od uu)) : Ext K ρ H ρ2 (upd H2 a uu) := by
  have soft : (∀ vs, H a ≠ some (.tup vs)) ∧ ∀ o u, H a ≠ some (.frz o u) := soft_of hd (by cases uu <;> first | rfl | cases hu)
  refine ⟨x.pre, fun b vs h => sqT_open hl hu (x.tup b vs (sqT_soft h soft.1 soft.2)), fun b o u h => ?_⟩
  have ne : b ≠ a := fun e => by subst e; rw [hd] at h; cases h; cases hu
  rw [upd_ne ne]
  exact x.frz b o u (by rw [upd_ne ne]; exact h)
end
def stpK (kvs : List (Key × Dv)) : Stp := fun i _ => some (kvs[i]?.map fun p => keyDv p.1)
def lckAt (n : Nat) (M : Mem) : Bool := match M[n]? with
  | some .lck => true
  | _ => false
def fForK (k : Nat) (g : FG) (f : FS) : FS := fun env M => match env[k]? with
  | some (some (.loc n)) => match M[n]? with
    | some (.dct kvs) => match loopF (stpK kvs) g f kvs.length 0 env (M.set n .lck) with
      | some (fl, M') => some (fl, M'.set n (.dct kvs))
      | none => none
    | _ => none
  | _ => none
theorem feeds_keys {ct : Ct} {K : Frg} {ρ0 : List Addr} {H0 : Hp} {a : Addr} {od : Obj} {kvs : List (Key × Dv)} {kv : List (Key × V)} (hl : H0 a = some (.frz od (.dK kv))) (hk : kvs.map (·.1) = kv.map (·.1)) : Feeds K ct ρ0 H0 (Itk a od kv) (stpK kvs) := by
  have len : kvs.length = kv.length := by have := congrArg List.length hk; simpa using this
  intro i ρ M H x r
  show (match some (kvs[i]?.map fun p => keyDv p.1) with | some (some d) => _ | some none => _ | none => _)
  cases q : kvs[i]? with
  | none => exact ⟨x.frz _ _ _ hl, by rw [← len]; exact List.getElem?_eq_none_iff.mp q⟩
  | some p =>
    have hi := (List.getElem?_eq_some_iff.mp q).1
    refine ⟨⟨x.frz _ _ _ hl, by omega⟩, fun y H' hy => ?_⟩
    obtain ⟨rfl, k, v, e, rfl⟩ := hy
    have e2 := congrArg (fun l => l[i]?) hk
    simp only [List.getElem?_map, q, e, Option.map_some, Option.some.injEq] at e2
    subst e2
    exact ⟨.refl, r, keyDv_dv p.1⟩
section
variable {X : Cx} {ct : Ct} {pos p : Pos} {tg : Expr} {g : FG} {f : FS} {body : List Stmt} {ws : List Nat} {x : Str}
theorem ss_forK {k : Nat} (hp : PassesOwn (model X.prog X.w) X.A X.env X.xe) (hc : X.calm = true) (hv : SE X ct (.Name x p) (fV k)) (hg : SG X ct ws tg g) (hb : SSs X ct body f)
    (hs : ∀ y, foldedSetIterable (.Name x p) X.env y = pure y := by intro _; rfl) : SS X ct (.For tg (.Name x p) body [] pos) (fForK k g f) := by
  refine PS.imp (ps_lock (ps_for hp hc (pi_keys hv) hg hb hs)) fun D σ H ⟨ρ, M, env, r, he, fl, M', hf, hq⟩ => ?_
  unfold fForK at hf
  split at hf
  · rename_i n hn
    split at hf
    · rename_i kvs hm
      split at hf
      · rename_i fl' N hlp
        obtain ⟨hf1, hf2⟩ := Prod.mk.inj (Option.some.inj hf)
        subst hf1 hf2
        obtain ⟨w, hw1, dw⟩ := he.2 k _ hn
        obtain ⟨a, kv, rfl, a1, a2, a3, a4⟩ := r.dct hm dw
        refine ⟨a, .dK kv, a2, trivial, fun od => ?_⟩
        obtain ⟨r1, x1⟩ := r.put (o := .lck) (o' := .frz od (.dK kv)) a1 a2 ⟨od, _, upd_same⟩
        refine ⟨ρ, M.set n .lck, env, r1, he.mono x1, .loc n, M.set n .lck, by unfold fV; rw [hn], fun ρ0 H0 e0 r0 v dv => ?_⟩
        have lk0 : H0 a = some (.frz od (.dK kv)) := e0.frz _ _ _ upd_same
        cases dv with
        | loc hv0 =>
        have := e0.pre _ _ a1
        rw [this] at hv0; cases hv0
        refine ⟨a, od, rfl, .inl ⟨kv, lk0, ?_⟩⟩
        have hJ := feeds_keys (ct := ct) (K := X.K) (ρ0 := ρ0) lk0 a3
        have fin : ∀ ρ2 H2 (fl2 : Fl), Ext X.K ρ0 H0 ρ2 H2 → Rl X.K ct ρ2 N H2 → (∀ ρ' H', Ext X.K ρ H ρ' H' → Rl X.K ct ρ' (N.set n (.dct kvs)) H' → endF X.K D fl2 ρ' H') →
            endF X.K ⟨fun σ' H' => H' a = some (.frz od (.dK kv)) ∧ D.nx σ' (upd H' a (.dK kv)), fun v H' => H' a = some (.frz od (.dK kv)) ∧ D.rt v (upd H' a (.dK kv)), fun σ' H' => H' a = some (.frz od (.dK kv)) ∧ D.bk σ' (upd H' a (.dK kv)), fun σ' H' => H' a = some (.frz od (.dK kv)) ∧ D.ct σ' (upd H' a (.dK kv))⟩ fl2 ρ2 H2 := by
          intro ρ2 H2 fl2 x2 r2 hE
          have xx := e0.trans x2
          have lk : H2 a = some (.frz od (.dK kv)) := xx.frz _ _ _ upd_same
          have hv2 : DVs X.K ρ2 H2 (kvs.map (·.2)) (kv.map (·.2)) := (a4.mono x1).mono xx
          have e := hE ρ2 _ (ext_opn a2 rfl xx lk) (r2.opn (xx.pre _ _ a1) lk a3 hv2)
          cases fl2 with
          | nx env2 => exact fun σ2 h2 => ⟨lk, e σ2 (h2.opn lk rfl)⟩
          | rt d => exact fun v h2 => ⟨lk, e v (h2.opn lk rfl)⟩
          | bk env2 => exact fun σ2 h2 => ⟨lk, e σ2 (h2.opn lk rfl)⟩
          | ct env2 => exact fun σ2 h2 => ⟨lk, e σ2 (h2.opn lk rfl)⟩
        have hq' : Aft X.K ct ρ0 H0 N fun ρ' H' => endF X.K ⟨fun σ' H' => H' a = some (.frz od (.dK kv)) ∧ D.nx σ' (upd H' a (.dK kv)), fun v H' => H' a = some (.frz od (.dK kv)) ∧ D.rt v (upd H' a (.dK kv)), fun σ' H' => H' a = some (.frz od (.dK kv)) ∧ D.bk σ' (upd H' a (.dK kv)), fun σ' H' => H' a = some (.frz od (.dK kv)) ∧ D.ct σ' (upd H' a (.dK kv))⟩ fl' ρ' H' :=
          fun ρ2 H2 x2 r2 => fin ρ2 H2 fl' x2 r2 hq
        generalize (Ends.mk (fun σ' H' => H' a = some (.frz od (.dK kv)) ∧ D.nx σ' (upd H' a (.dK kv))) (fun v H' => H' a = some (.frz od (.dK kv)) ∧ D.rt v (upd H' a (.dK kv))) (fun σ' H' => H' a = some (.frz od (.dK kv)) ∧ D.bk σ' (upd H' a (.dK kv))) (fun σ' H' => H' a = some (.frz od (.dK kv)) ∧ D.ct σ' (upd H' a (.dK kv)))) = D' at hq' ⊢
        refine ⟨fun i m σ H => ∃ ρ M env, Ext X.K ρ0 H0 ρ H ∧ Rl X.K ct ρ M H ∧ EnOk X.K ρ H env σ ∧ ∃ fl M', loopF (stpK kvs) g f m i env M = some (fl, M') ∧ Aft X.K ct ρ H M' fun ρ' H' => endF X.K D' fl ρ' H',
          ⟨kvs.length, ρ0, M.set n .lck, env, .refl, r0, (he.mono x1).mono e0, fl', N, hlp, hq'⟩, ?_⟩
        clear hlp hq' fin hq
        rintro i m σ H ⟨ρ, M, env, x0, r, he, fl, M', hf, hq⟩
        have hj := hJ i ρ M H x0 r
        cases q : stpK kvs i M with
        | none =>
          cases m with
          | zero => (simp only [loopF, q] at hf; try cases hf)
          | succ m => (simp only [loopF, q] at hf; try cases hf)
        | some o =>
          rw [q] at hj
          cases o with
          | none =>
            have e : some (Fl.nx env, M) = some (fl, M') := by
              cases m with
              | zero => simpa only [loopF, q] using hf
              | succ m => simpa only [loopF, q] using hf
            cases e
            exact .inl ⟨hj, hq ρ H .refl r σ he⟩
          | some d =>
            cases m with
            | zero => (simp only [loopF, q] at hf; try cases hf)
            | succ m =>
              simp only [loopF, q] at hf
              obtain ⟨e1, N1, g1, hf⟩ := bnd_some hf
              obtain ⟨f1, N2, g2, hf⟩ := bnd_some hf
              refine .inr ⟨hj.1, fun σ' H' => ∃ ρ M env, Ext X.K ρ0 H0 ρ H' ∧ Rl X.K ct ρ M H' ∧ EnOk X.K ρ H' env σ' ∧ ∃ fl M', loopF (stpK kvs) g f m (i + 1) env M = some (fl, M') ∧ Aft X.K ct ρ H' M' fun ρ' H' => endF X.K D' fl ρ' H',
                fun σ' H' n => ⟨m, Nat.lt_succ_self m, n⟩, fun x H' hy => ?_⟩
              obtain ⟨y1, y2, y3⟩ := hj.2 x H' hy
              refine ⟨ρ, M, env, d, y2, he.mono y1, y3, e1, N1, g1, fun ρ1 H1 x1 r1 σ1 en1 _ => ⟨ρ1, N1, e1, r1, en1, f1, N2, g2, fun ρ2 H2 x2 r2 => ?_⟩⟩
              have xx := (y1.trans x1).trans x2
              cases f1 with
              | nx e3 => exact fun σ2 en2 => ⟨ρ2, N2, e3, x0.trans xx, r2, en2, fl, M', hf, hq.later xx⟩
              | ct e3 => exact fun σ2 en2 => ⟨ρ2, N2, e3, x0.trans xx, r2, en2, fl, M', hf, hq.later xx⟩
              | bk e3 => cases hf; exact fun σ2 en2 => hq ρ2 H2 xx r2 σ2 en2
              | rt d => cases hf; exact hq ρ2 H2 xx r2
      · cases hf
    · cases hf
  · cases hf
end
end Zl

/-! text Z28 -/
namespace Zl
open PySem L2 PySem.Spec PyProof.Rows
/-- *e, a tuple or a list, in a display or in a list of arguments -/
def fStarE (f : FE) (g : FA) : FA := fun env M => bnd (f env M) fun d M1 => match d with
  | .tup xs => bnd (g env M1) fun ds M2 => some (xs ++ ds, M2)
  | .loc n => match M1[n]? with
    | some (.lst xs) => bnd (g env M1) fun ds M2 => some (xs ++ ds, M2)
    | _ => none
  | _ => none
theorem sa_starE {X : Cx} {ct : Ct} {e : Expr} {es : List Expr} {p : Pos} {fa : FE} {fr : FA} (h : SE X ct e fa) (k : SA X ct es fr) (hs : starEach (.Starred e p :: es) X.env = (true, eval e X.env) :: starEach es X.env := by rfl) : SA X ct (.Starred e p :: es) (fStarE fa fr) :=
  PA.imp (StX.pa_star h k hs) fun σ H Q ⟨ρ, M, env, r, he, d, M', hf, hq⟩ => by
    obtain ⟨x, M1, h1, hf⟩ := bnd_some hf
    split at hf
    · rename_i zs
      obtain ⟨ys, M2, h2, hf⟩ := bnd_some hf
      cases hf
      refine ⟨ρ, M, env, r, he, _, M1, h1, fun ρ1 H1 e1 r1 v dv => ?_⟩
      cases dv with
      | tup td ds =>
        exact ⟨_, _, rfl, .inl td.sq, ρ1, M1, env, r1, he.mono e1, ys, _, h2, fun ρ2 H2 e2 r2 vs dvs => hq ρ2 H2 (e1.trans e2) r2 _ ((ds.mono e2).append dvs)⟩
    · split at hf
      · rename_i hm
        obtain ⟨ys, M2, h2, hf⟩ := bnd_some hf
        cases hf
        refine ⟨ρ, M, env, r, he, _, M1, h1, fun ρ1 H1 e1 r1 v dv => ?_⟩
        obtain ⟨a, vs, rfl, a1, a2, a3⟩ := r1.lst hm dv
        exact ⟨_, _, rfl, .inr (SqL.of a2), ρ1, M1, env, r1, he.mono e1, ys, _, h2, fun ρ2 H2 e2 r2 ws dws => hq ρ2 H2 (e1.trans e2) r2 _ ((a3.mono e2).append dws)⟩
      · cases hf
    · cases hf
end Zl

/-! text Z29 -/
namespace Zl
open PySem L2 PySem.Spec PyProof.Rows

/-! ## the keys of a locked dict whose keys are nested tuples -/
theorem frzN {X : Cx} {pins : List (Addr × Obj)} {σ : L2.St} {H : Hp} {s : Shared} {d : Addr} {o : Obj} {P : Program} {w : World} {xs : List (NestedKey × Addr × Value)}
    (I : L2.Inv X pins σ H s) (h : H d = some (.frz o (NDic P w d xs))) :
    (d == sysModules) = false ∧ s.heap.get? d = some o ∧ o.ExactDict ∧ ∃ (es : Array DictEntry) (ep : Nat), o.data = .dict es ep ∧ es.size = xs.length ∧
      ∀ (i : Nat) p, xs[i]? = some p → ∃ en : DictEntry, es[i]? = some en ∧ en.key = .ref p.2.1 := by
  obtain ⟨hd, z⟩ := I.hok d _ h
  obtain ⟨o', es, ep, g1, g2, g3, g4, g5, g6, g7⟩ := z.1
  rw [hd] at g1
  cases g1
  refine ⟨g7, hd, g2, es, ep, g3, size_of_entries g4, fun i p e => ?_⟩
  have q := entry_at g4 i
  rw [e] at q
  exact ⟨_, q, rfl⟩
def Itkn (P : Program) (w : World) (d : Addr) (o : Obj) (xs : List (NestedKey × Addr × Value)) : It :=
  ⟨fun i H => H d = some (.frz o (NDic P w d xs)) ∧ i < xs.length, fun i H x H' => H' = H ∧ ∃ p, xs[i]? = some p ∧ x = .ref p.2.1, fun i H => H d = some (.frz o (NDic P w d xs)) ∧ xs.length ≤ i⟩
theorem turn_keysN {P : Program} {w : World} {K : PySem.W.Frag} {tg : Expr} {P' : Program} {w' : World} {d : Addr} {o : Obj} {es : Array DictEntry} {ep : Nat} {xs : List (NestedKey × Addr × Value)} (it : Addr) (hod : o.data = .dict es ep) :
    Turn P w K tg (Itkn P' w' d o xs) [it] it (fun i h => h.IsKeyIter it d i xs.length ep) where
  mem := by simp
  obj := fun i h st b hb => by
    have e : b = it := by simpa using hb
    subst e
    obtain ⟨oi, e, c, dd⟩ := st
    exact ⟨oi, e, fun v z => by rw [dd] at z; cases z⟩
  keep := fun i h h' st k => st.at fun oi e => k it (by simp) oi e
  item := by
    intro X hP hw hK hc i pins s σ H E I hf st hg
    subst hP hw hK
    obtain ⟨hd, hi⟩ := hg
    have ff := hf it (by simp)
    obtain ⟨hs, hgd, hx, es', ep', hdt, hsz, ent⟩ := frzN I hd
    obtain ⟨rfl, rfl⟩ := dict_ep hod hdt
    obtain ⟨en, hen, hkey⟩ := ent i _ (List.getElem?_eq_getElem hi)
    refine next_key_item st hgd hdt hsz hen fun h' st' sb => ?_
    have I1 : Inv X pins σ H { s with heap := h' } := I.turned (t' := s.toks) (fun b ob hb e => (sb.2 b hb).trans e) ff.1 ff.2.1 ff.2.2.2.1 ff.2.2.2.2.1 ff.2.2.2.2.2
    obtain ⟨oi, e, c, dd⟩ := id st'
    exact ⟨_, rfl, go_of (s := { s with heap := h' }) e c dd (by decide) ⟨.ref xs[i].2.1, H, I1, hkey, ⟨rfl, _, List.getElem?_eq_getElem hi, rfl⟩, st', fun b hb => (hf b hb).1⟩⟩
  done := by
    intro X hP hw hK hc i pins s σ H E I hf st hg
    subst hP hw hK
    obtain ⟨hd, hi⟩ := hg
    have ff := hf it (by simp)
    obtain ⟨hs, hgd, hx, es', ep', hdt, hsz, ent⟩ := frzN I hd
    obtain ⟨rfl, rfl⟩ := dict_ep hod hdt
    exact next_key_end (I.ok.hd hc) st hgd hdt hsz hi fun h' eb => ⟨rfl, I.turned (t' := s.toks) (fun b ob hb e => eb b ob hb e) ff.1 ff.2.1 ff.2.2.2.1 ff.2.2.2.2.1 ff.2.2.2.2.2⟩
  self := fun A i s Q E st h => wpAny_pyIter_keyiter st h
def iKeysN (P : Program) (w : World) (td : TE) : TI := fun σ H R => td σ H fun x H1 => ∃ d o xs, x = .ref d ∧ H1 d = some (.frz o (NDic P w d xs)) ∧ R (Itkn P w d o xs) H1
theorem pi_keysN {X : Cx} {tg e : Expr} {td : TE} {P : Program} {w : World} (he : PE X e td) : PI X tg e (iKeysN P w td) := by
  refine ⟨fun pins s σ H R I h => thn (he.run pins s σ H _ I h) fun u s1 ⟨x, H1, I1, rx, d, o, xs, ex, hd, q⟩ => ?_⟩
  subst ex
  obtain rfl : u = Value.ref d := rx
  obtain ⟨hs, hgd, hx, es, ep, hdt, hsz, ent⟩ := frzN I1 hd
  refine iter_keys hs hgd hx hdt (pi_one (tk := s1.toks) I1 _ (turn_keysN _ hdt) ⟨_, Heap.get?_push_size _ rfl, rfl, ?_⟩ q)
  rw [hsz] <;> rfl
def stpN (kvs : List (NestedKey × Dv × Dv)) : Stp := fun i _ => some (kvs[i]?.map fun p => p.2.1)
def fKeysN (f : FE) : FI := fun env M => bnd (f env M) fun d M1 => match d with
  | .loc n => match M1[n]? with
    | some (.lckN kvs) => some (⟨kvs.length, stpN kvs⟩, M1)
    | _ => none
  | _ => none
theorem feeds_keysN {ct : Ct} {K : Frg} {ρ0 : List Addr} {H0 : Hp} {a : Addr} {od : Obj} {P : Program} {w : World} {kvs : List (NestedKey × Dv × Dv)} {xs : List (NestedKey × Addr × Value)} (hl : H0 a = some (.frz od (NDic P w a xs)))
    (hv : DVs K ρ0 H0 (kvs.map (·.2.1)) (xs.map fun x => V.ref x.2.1)) : Feeds K ct ρ0 H0 (Itkn P w a od xs) (stpN kvs) := by
  have len : kvs.length = xs.length := by have := hv.length; simpa using this
  intro i ρ M H x r
  show (match some (kvs[i]?.map fun p => p.2.1) with | some (some d) => _ | some none => _ | none => _)
  cases q : kvs[i]? with
  | none => exact ⟨x.frz _ _ _ hl, by rw [← len]; exact List.getElem?_eq_none_iff.mp q⟩
  | some p =>
    have hi := (List.getElem?_eq_some_iff.mp q).1
    refine ⟨⟨x.frz _ _ _ hl, by omega⟩, fun y H' hy => ?_⟩
    obtain ⟨rfl, p', e, rfl⟩ := hy
    obtain ⟨v, h1, h2⟩ := hv.get (i := i) (d := p.2.1) (by rw [List.getElem?_map, q]; rfl)
    rw [List.getElem?_map, e] at h1
    cases h1
    exact ⟨.refl, r, h2.mono x⟩
section
variable {X : Cx} {ct : Ct} {tg e : Expr} {fe : FE}
theorem si_keysN (h : SE X ct e fe) : SI X ct tg e (fKeysN fe) := by
  refine PI.imp (pi_keysN (P := ct.prg) (w := ct.wd) h) fun σ H R ⟨ρ, M, env, r, he, src, M', hf, hq⟩ => ?_
  obtain ⟨d, M1, h1, hf⟩ := bnd_some hf
  refine ⟨ρ, M, env, r, he, d, M1, h1, fun ρ1 H1 e1 r1 v dv => ?_⟩
  split at hf
  · split at hf
    · rename_i kvs hm
      cases hf
      obtain ⟨a, h1, od, xs, vs, a1, a2, a3, a4, a5, a6⟩ := r1.ok _ _ hm
      cases dv with
      | loc hv =>
        rw [hv] at h1; cases h1
        exact ⟨a, od, xs, rfl, a1, hq ρ1 H1 e1 r1 _ (feeds_keysN a1 a4)⟩
    · cases hf
  · cases hf
end
/-! ## what runs while the dict of a name is locked -/
def lockE (k : Nat) (f : FE) : FE := fun env M => match env[k]? with
  | some (some (.loc n)) => match M[n]? with
    | some (.dcn kvs) => match f env (M.set n (.lckN kvs)) with
      | some (d, M') => some (d, M'.set n (.dcn kvs))
      | none => none
    | _ => none
  | _ => none
def lockS (k : Nat) (f : FS) : FS := fun env M => match env[k]? with
  | some (some (.loc n)) => match M[n]? with
    | some (.dcn kvs) => match f env (M.set n (.lckN kvs)) with
      | some (d, M') => some (d, M'.set n (.dcn kvs))
      | none => none
    | _ => none
  | _ => none
/-- the dict is as it was again -/
theorem Rl.opnN {K : Frg} {ρ : List Addr} {H : Hp} {a : Addr} {od : Obj} {ct : Ct} {M : Mem} {n : Nat} {kvs : List (NestedKey × Dv × Dv)} {xs : List (NestedKey × Addr × Value)} {vs : List V} (r : Rl K ct ρ M H) (hn : ρ[n]? = some a) (hl : H a = some (.frz od (NDic ct.prg ct.wd a xs)))
    (h1 : kvs.map (·.1) = xs.map (·.1)) (h2 : ∀ p ∈ kvs, keyN p.2.1 = some p.1) (h3 : DVs K ρ H (kvs.map (·.2.1)) (xs.map fun x => V.ref x.2.1)) (h4 : DVs K ρ H (kvs.map (·.2.2)) vs) (h5 : Vals vs (xs.map (·.2.2))) :
    Rl K ct ρ (M.set n (.dcn kvs)) (upd H a (NDic ct.prg ct.wd a xs)) := by
  refine ⟨by simp [r.len], r.nd, fun m x hx => ?_⟩
  by_cases hmn : n = m
  · subst hmn
    rw [List.getElem?_set, if_pos rfl] at hx
    split at hx
    · cases hx
      exact ⟨a, hn, xs, vs, upd_same, h1, h2, h3.opn hl rfl, h4.opn hl rfl, h5⟩
    · cases hx
  · rw [List.getElem?_set_ne hmn] at hx
    obtain ⟨b, q1, q2⟩ := r.ok m x hx
    refine ⟨b, q1, q2.opn hl rfl fun e => ?_⟩
    subst e
    obtain ⟨i1, e1⟩ := List.getElem?_eq_some_iff.mp q1
    obtain ⟨i2, e2⟩ := List.getElem?_eq_some_iff.mp hn
    exact hmn ((List.getElem_inj r.nd).mp (e2.trans e1.symm))
section
variable {X : Cx} {ct : Ct} {e : Expr} {fe : FE} {st : Stmt} {f : FS}
theorem se_lock {k : Nat} (h : SE X ct e fe) : SE X ct e (lockE k fe) := by
  refine PE.imp (pe_lock h) fun σ H Q ⟨ρ, M, env, r, he, d, M', hf, hq⟩ => ?_
  unfold lockE at hf
  split at hf
  · rename_i n hn
    split at hf
    · rename_i kvs hm
      split at hf
      · rename_i d' N hlp
        obtain ⟨hf1, hf2⟩ := Prod.mk.inj (Option.some.inj hf)
        subst hf1 hf2
        obtain ⟨w, hw1, dw⟩ := he.2 k _ hn
        obtain ⟨a, xs, vs, rfl, a1, a2, a3, a4, a5, a6, a7⟩ := r.dcn hm dw
        refine ⟨a, _, a2, trivial, fun od => ?_⟩
        have x0 : Ext X.K ρ H ρ (upd H a (.frz od (NDic ct.prg ct.wd a xs))) := Ext.soft (fun _ _ h => h) (soft_of a2 rfl).1 (soft_of a2 rfl).2
        obtain ⟨r1, x1⟩ := r.put (o := .lckN kvs) (o' := .frz od (NDic ct.prg ct.wd a xs)) a1 a2 ⟨od, xs, vs, upd_same, a3, a4, a5.mono x0, a6.mono x0, a7⟩
        refine ⟨ρ, M.set n (.lckN kvs), env, r1, he.mono x1, d', N, hlp, fun ρ2 H2 x2 r2 v dv => ?_⟩
        have lk : H2 a = some (.frz od (NDic ct.prg ct.wd a xs)) := x2.frz _ _ _ upd_same
        exact ⟨lk, hq ρ2 _ (ext_opn a2 rfl x2 lk) (r2.opnN (x2.pre _ _ a1) lk a3 a4 ((a5.mono x1).mono x2) ((a6.mono x1).mono x2) a7) v (dv.opn lk rfl)⟩
      · cases hf
    · cases hf
  · cases hf
theorem ss_lock {k : Nat} (h : SS X ct st f) : SS X ct st (lockS k f) := by
  refine PS.imp (ps_lock h) fun D σ H ⟨ρ, M, env, r, he, fl, M', hf, hq⟩ => ?_
  unfold lockS at hf
  split at hf
  · rename_i n hn
    split at hf
    · rename_i kvs hm
      split at hf
      · rename_i fl' N hlp
        obtain ⟨hf1, hf2⟩ := Prod.mk.inj (Option.some.inj hf)
        subst hf1 hf2
        obtain ⟨w, hw1, dw⟩ := he.2 k _ hn
        obtain ⟨a, xs, vs, rfl, a1, a2, a3, a4, a5, a6, a7⟩ := r.dcn hm dw
        refine ⟨a, _, a2, trivial, fun od => ?_⟩
        have x0 : Ext X.K ρ H ρ (upd H a (.frz od (NDic ct.prg ct.wd a xs))) := Ext.soft (fun _ _ h => h) (soft_of a2 rfl).1 (soft_of a2 rfl).2
        obtain ⟨r1, x1⟩ := r.put (o := .lckN kvs) (o' := .frz od (NDic ct.prg ct.wd a xs)) a1 a2 ⟨od, xs, vs, upd_same, a3, a4, a5.mono x0, a6.mono x0, a7⟩
        refine ⟨ρ, M.set n (.lckN kvs), env, r1, he.mono x1, fl', N, hlp, fun ρ2 H2 x2 r2 => ?_⟩
        have lk : H2 a = some (.frz od (NDic ct.prg ct.wd a xs)) := x2.frz _ _ _ upd_same
        have q := hq ρ2 _ (ext_opn a2 rfl x2 lk) (r2.opnN (x2.pre _ _ a1) lk a3 a4 ((a5.mono x1).mono x2) ((a6.mono x1).mono x2) a7)
        cases fl' with
        | nx env2 => exact fun σ2 h2 => ⟨lk, q σ2 (h2.opn lk rfl)⟩
        | rt d => exact fun v h2 => ⟨lk, q v (h2.opn lk rfl)⟩
        | bk env2 => exact fun σ2 h2 => ⟨lk, q σ2 (h2.opn lk rfl)⟩
        | ct env2 => exact fun σ2 h2 => ⟨lk, q σ2 (h2.opn lk rfl)⟩
      · cases hf
    · cases hf
  · cases hf
end
end Zl

/-! text Z30 -/
namespace Zl
open PySem L2 PySem.Spec PyProof.Rows
/-! ## zip of two lists whose pairs are kept: for p in zip(a, b) -/
section
variable {prog : Program} {w : World} {A : Around} {E : Value → Shared → Prop} {s : Shared}
abbrev ZP (h : Heap) (z TI TO : Addr) (m n : Value) : Prop := h.get? z = some { cls := .type "zip", dict := none, data := .fields #[m, n, .bool false, .ref TI, .ref TO], slots := #[] }
def Mk (m : Value) : Prop := m = .none ∨ ∃ t : Nat, m = rawInt t
theorem wa_alive {a : Addr} {Q : Option Obj → Shared → Prop} (h : Q (s.heap.get? a) s) : wpAny (model prog w) A (loadIfAlive a) Q E s := fun _ _ _ => h
theorem wa_isFree {z TI TO : Addr} {m n : Value} {Q : Bool → Shared → Prop} (hz : ZP s.heap z TI TO m n) (hm : Mk m) (h1 : Q true s)
    (h2 : ∀ h', ZP h' z TI TO m (.bool true) → Heap.SameBut z s.heap h' → Q false { s with heap := h' }) : wpAny (model prog w) A (Builtin.SmallTypes.ownedTupleIsFree (.ref z)) Q E s := by
  unfold Builtin.SmallTypes.ownedTupleIsFree
  refine wpAny_bind (wpAny_field hz rfl (x := m) rfl ?_)
  rcases hm with rfl | ⟨t, rfl⟩
  · exact wpAny_pure h1
  · refine wpAny_bind (wa_alive ?_)
    cases s.heap.get? (Int.toNat (t : Int)) with
    | none => exact wpAny_pure h1
    | some o =>
      refine wpAny_bind (wpAny_field hz rfl (x := n) rfl ?_)
      by_cases e : n = .bool true
      · subst e
        exact wpAny_pure (h2 s.heap hz ⟨rfl, fun _ _ => rfl⟩)
      · have e2 : (n != Value.bool true) = true := by simpa using e
        simp only [e2, if_true]
        refine wpAny_bind (wpAny_setField_rec hz (by simp) fun h' hz' sb => wpAny_pure (h2 h' hz' sb))
theorem wz_item {z TI TO i j l r : Addr} {k : Nat} {xs ys : Array Value} {x y a b m n : Value} {Q : Value → Shared → Prop} (D : ZipApart z TI TO i j l r)
    (hz : ZP s.heap z TI TO m n) (hm : Mk m) (hI : IsPair s.heap TI (.ref i) (.ref j)) (hO : IsPair s.heap TO a b)
    (h1 : s.heap.IsListIter i l k) (h2 : s.heap.IsListIter j r k) (hl : s.heap.IsList l xs) (hr : s.heap.IsList r ys) (hx : xs[k]? = some x) (hy : ys[k]? = some y)
    (hQ : ∀ h' m' n', ZP h' z TI TO m' n' → Mk m' → (∃ a b, IsPair h' TO a b) → h'.IsListIter i l (k + 1) → h'.IsListIter j r (k + 1) → IsPair h' s.heap.objs.size x y → h'.objs.size = s.heap.objs.size + 1 →
      (∀ c o, c ≠ z → c ≠ TO → c ≠ i → c ≠ j → s.heap.get? c = some o → h'.get? c = some o) → Q (.ref s.heap.objs.size) { s with heap := h' }) :
    wpAny (model prog w) A (Builtin.«zip.__next__» ⟨[.ref z], []⟩) (fun f s' => ∃ v, f = .done (.ret v) ∧ Q v s') E s := by
  show wpAny _ _ (field (.ref z) 2 >>= _) _ _ _
  refine wpAny_bind (wpAny_field hz rfl (x := .bool false) rfl ?_)
  show wpAny _ _ (field (.ref z) 3 >>= _) _ _ _
  refine wpAny_bind (wpAny_field hz rfl (x := .ref TI) rfl ?_)
  refine wpAny_bind (wpAny_seqItems hI rfl ?_)
  show wpAny _ _ (Builtin.SmallTypes.ownedTupleIsFree (.ref z) >>= _) _ _ _
  refine wpAny_bind (wa_isFree hz hm ?_ fun g0 z0 s0 => ?_)
  · simp only [if_true]
    refine wpAny_bind (wpAny_rule ?_)
    refine wpAny_bind (wpAny_field hz rfl (x := .ref TO) rfl ?_)
    refine wpAny_bind (wpAny_setField_rec hz (by simp) fun g1 z1 s1 => ?_)
    replace z1 : ZP g1 z TI TO .ellipsis n := z1
    refine wpAny_bind ?_
    simp only [List.zipIdx_cons, List.zipIdx_nil, List.forIn_cons, List.forIn_nil]
    refine wpAny_bind (wpAny_bind (wpAny_onRaise ?_))
    show wpAny _ _ (Builtin.SmallTypes.nextOf (.ref i) >>= _) _ _ _
    refine wpAny_bind (wpAny_nextOf_list_item (h1.extBut s1.extBut D.i1z) (hl.extBut s1.extBut D.l1z) hx fun g2 p2 s2 => wpAny_pure ?_)
    have o2 : IsPair g2 TO a b := s2.extBut _ _ D.TOi1 (s1.extBut _ _ D.TOz hO)
    refine wpAny_bind (wpAny_seqItems o2 rfl ?_)
    refine wpAny_bind (wpAny_updateSeq_pair o2 fun g3 o3 s3 => ?_)
    replace o3 : IsPair g3 TO x b := o3
    refine wpAny_bind (wpAny_letGo (wpAny_pure ?_))
    refine wpAny_bind (wpAny_bind (wpAny_onRaise ?_))
    show wpAny _ _ (Builtin.SmallTypes.nextOf (.ref j) >>= _) _ _ _
    have q2 := ((h2.extBut s1.extBut D.i2z).extBut s2.extBut D.i12.symm).extBut s3.extBut D.TOi2.symm
    have r2 := ((hr.extBut s1.extBut D.l2z).extBut s2.extBut D.l2i1).extBut s3.extBut D.l2TO
    refine wpAny_bind (wpAny_nextOf_list_item q2 r2 hy fun g4 p4 s4 => wpAny_pure ?_)
    have o4 : IsPair g4 TO x b := s4.extBut _ _ D.TOi2 o3
    refine wpAny_bind (wpAny_seqItems o4 rfl ?_)
    refine wpAny_bind (wpAny_updateSeq_pair o4 fun g5 o5 s5 => ?_)
    replace o5 : IsPair g5 TO x y := o5
    refine wpAny_bind (wpAny_letGo (wpAny_pure (wpAny_pure ?_)))
    refine wpAny_bind (wpAny_seqItems o5 rfl ?_)
    refine wpAny_bind (wpAny_newTuple ?_)
    have sz : g5.objs.size = s.heap.objs.size := by rw [s5.1, s4.1, s3.1, s2.1, s1.1]
    have z5 : ZP g5 z TI TO .ellipsis n := s5.extBut _ _ D.TOz.symm (s4.extBut _ _ D.i2z.symm (s3.extBut _ _ D.TOz.symm (s2.extBut _ _ D.i1z.symm z1)))
    have keep : ∀ c o, c ≠ z → c ≠ TO → c ≠ i → c ≠ j → s.heap.get? c = some o → g5.get? c = some o := fun c o n1 n2 n3 n4 e =>
      s5.extBut _ _ n2 (s4.extBut _ _ n4 (s3.extBut _ _ n2 (s2.extBut _ _ n3 (s1.extBut _ _ n1 e))))
    have p5 : g5.IsListIter i l (k + 1) := ((p2.extBut s3.extBut D.TOi1.symm).extBut s4.extBut D.i12).extBut s5.extBut D.TOi1.symm
    have q5 : g5.IsListIter j r (k + 1) := p4.extBut s5.extBut D.TOi2.symm
    have zlt : z < g5.objs.size := Heap.lt_size z5
    show wpAny _ _ (Builtin.SmallTypes.ownedTupleHandOut (.ref z) (.ref g5.objs.size) >>= _) _ _ _
    refine wpAny_bind ?_
    unfold Builtin.SmallTypes.ownedTupleHandOut
    have z6 : ZP (g5.push { cls := .type "tuple", data := .seq #[x, y] }) z TI TO .ellipsis n := Heap.get?_push_of_some _ z5
    refine wpAny_bind (wpAny_setField_rec z6 (by simp) fun g7 z7 s7 => ?_)
    replace z7 : ZP g7 z TI TO (rawInt g5.objs.size) n := z7
    refine wpAny_setField_rec z7 (by simp) fun g8 z8 s8 => ?_
    replace z8 : ZP g8 z TI TO (rawInt g5.objs.size) (.bool false) := z8
    have up : ∀ c o, c ≠ z → g5.get? c = some o → g8.get? c = some o := fun c o n1 e => s8.extBut _ _ n1 (s7.extBut _ _ n1 (Heap.get?_push_of_some _ e))
    have t8 : IsPair g8 g5.objs.size x y := s8.extBut _ _ (Nat.ne_of_gt zlt) (s7.extBut _ _ (Nat.ne_of_gt zlt) (Heap.get?_push_size _ rfl))
    have sz8 : g8.objs.size = g5.objs.size + 1 := by rw [s8.1, s7.1, Heap.size_push]
    rw [sz] at z8 t8 sz8
    refine wpAny_pure ⟨_, rfl, ?_⟩
    show Q (.ref g5.objs.size) _
    rw [sz]
    exact hQ g8 _ _ z8 (.inr ⟨_, rfl⟩) ⟨_, _, up _ _ D.TOz o5⟩ (p5.at fun o e => up _ o D.i1z e) (q5.at fun o e => up _ o D.i2z e) t8 sz8 fun c o n1 n2 n3 n4 e => up c o n1 (keep c o n1 n2 n3 n4 e)
  · simp only [if_neg (show ¬ (false = true) from Bool.false_ne_true)]
    refine wpAny_bind ?_
    simp only [List.forIn_toArray, List.forIn_cons, List.forIn_nil]
    refine wpAny_bind (wpAny_bind (wpAny_holding ?_))
    show wpAny _ _ (Builtin.SmallTypes.nextOf (.ref i) >>= _) _ _ _
    refine wpAny_bind (wpAny_nextOf_list_item (h1.extBut s0.extBut D.i1z) (hl.extBut s0.extBut D.l1z) hx fun g2 p2 s2 => wpAny_pure (wpAny_pure ?_))
    refine wpAny_bind (wpAny_bind (wpAny_holding ?_))
    show wpAny _ _ (Builtin.SmallTypes.nextOf (.ref j) >>= _) _ _ _
    have q2 := (h2.extBut s0.extBut D.i2z).extBut s2.extBut D.i12.symm
    have r2 := (hr.extBut s0.extBut D.l2z).extBut s2.extBut D.l2i1
    refine wpAny_bind (wpAny_nextOf_list_item q2 r2 hy fun g4 p4 s4 => wpAny_pure (wpAny_pure (wpAny_pure ?_)))
    show wpAny _ _ (newTuple [x, y] >>= _) _ _ _
    refine wpAny_bind (wpAny_newTuple (wpAny_pure ⟨_, rfl, ?_⟩))
    have sz : g4.objs.size = s.heap.objs.size := by rw [s4.1, s2.1, s0.1]
    have z4 : ZP g4 z TI TO m (.bool true) := s4.extBut _ _ D.i2z.symm (s2.extBut _ _ D.i1z.symm z0)
    have keep : ∀ c o, c ≠ z → c ≠ TO → c ≠ i → c ≠ j → s.heap.get? c = some o → g4.get? c = some o := fun c o n1 n2 n3 n4 e =>
      s4.extBut _ _ n4 (s2.extBut _ _ n3 (s0.extBut _ _ n1 e))
    have p5 : g4.IsListIter i l (k + 1) := p2.extBut s4.extBut D.i12
    show Q (.ref g4.objs.size) _
    have t4 : IsPair (g4.push { cls := .type "tuple", data := .seq #[x, y] }) g4.objs.size x y := Heap.get?_push_size _ rfl
    have sz4 : (g4.push { cls := .type "tuple", data := .seq #[x, y] }).objs.size = g4.objs.size + 1 := Heap.size_push ..
    have o4 : IsPair g4 TO a b := s4.extBut _ _ D.TOi2 (s2.extBut _ _ D.TOi1 (s0.extBut _ _ D.TOz hO))
    rw [sz] at t4 sz4 ⊢
    exact hQ _ _ _ (Heap.get?_push_of_some _ z4) hm ⟨_, _, Heap.get?_push_of_some _ o4⟩ (p5.at fun o e => Heap.get?_push_of_some _ e) (p4.at fun o e => Heap.get?_push_of_some _ e) t4 sz4 fun c o n1 n2 n3 n4 e => Heap.get?_push_of_some _ (keep c o n1 n2 n3 n4 e)
theorem wz_end {z TI TO i j l r : Addr} {k : Nat} {xs ys : Array Value} {a b m n : Value} {Q : Fin → Shared → Prop} (hh : A.handled = none) (D : ZipApart z TI TO i j l r)
    (hz : ZP s.heap z TI TO m n) (hm : Mk m) (hI : IsPair s.heap TI (.ref i) (.ref j)) (hO : IsPair s.heap TO a b)
    (h1 : s.heap.IsListIter i l k) (h2 : s.heap.IsListIter j r k) (hl : s.heap.IsList l xs) (hr : s.heap.IsList r ys) (he : xs[k]? = none ∨ ys[k]? = none)
    (hE : ∀ h' e, (∀ c o, c ≠ z → c ≠ TO → c ≠ i → c ≠ j → s.heap.get? c = some o → h'.get? c = some o) → (∃ o, h'.get? e = some o ∧ o.cls = .type "StopIteration") → E (.ref e) { s with heap := h' }) :
    wpAny (model prog w) A (Builtin.«zip.__next__» ⟨[.ref z], []⟩) Q E s := by
  show wpAny _ _ (field (.ref z) 2 >>= _) _ _ _
  refine wpAny_bind (wpAny_field hz rfl (x := .bool false) rfl ?_)
  show wpAny _ _ (field (.ref z) 3 >>= _) _ _ _
  refine wpAny_bind (wpAny_field hz rfl (x := .ref TI) rfl ?_)
  refine wpAny_bind (wpAny_seqItems hI rfl ?_)
  show wpAny _ _ (Builtin.SmallTypes.ownedTupleIsFree (.ref z) >>= _) _ _ _
  refine wpAny_bind (wa_isFree hz hm ?_ fun g0 z0 s0 => ?_)
  · simp only [if_true]
    refine wpAny_bind (wpAny_rule ?_)
    refine wpAny_bind (wpAny_field hz rfl (x := .ref TO) rfl ?_)
    refine wpAny_bind (wpAny_setField_rec hz (by simp) fun g1 z1 s1 => ?_)
    replace z1 : ZP g1 z TI TO .ellipsis n := z1
    refine wpAny_bind ?_
    simp only [List.zipIdx_cons, List.zipIdx_nil, List.forIn_cons, List.forIn_nil]
    refine wpAny_bind (wpAny_bind (wpAny_onRaise ?_))
    show wpAny _ _ (Builtin.SmallTypes.nextOf (.ref i) >>= _) _ _ _
    cases hx : xs[k]? with
    | none =>
      refine wpAny_bind (wpAny_nextOf_list_end hh (h1.extBut s1.extBut D.i1z) (hl.extBut s1.extBut D.l1z) hx fun g2 e s2 ⟨oe, e1, e2⟩ => ?_)
      have z2 : ZP g2 z TI TO .ellipsis n := s2 _ _ D.i1z.symm z1
      have ne : e ≠ z := fun q => by subst q; rw [z2] at e1; cases e1; simp at e2
      exact wpAny_setField_rec z2 (by simp) fun g3 _ s3 => hE g3 e (fun c o n1 _ n3 _ q => s3.extBut _ _ n1 (s2 _ _ n3 (s1.extBut _ _ n1 q))) ⟨oe, s3.extBut _ _ ne e1, e2⟩
    | some x =>
      have hy : ys[k]? = none := by rcases he with h | h; (rw [hx] at h; cases h); exact h
      refine wpAny_bind (wpAny_nextOf_list_item (h1.extBut s1.extBut D.i1z) (hl.extBut s1.extBut D.l1z) hx fun g2 p2 s2 => wpAny_pure ?_)
      have o2 : IsPair g2 TO a b := s2.extBut _ _ D.TOi1 (s1.extBut _ _ D.TOz hO)
      refine wpAny_bind (wpAny_seqItems o2 rfl ?_)
      refine wpAny_bind (wpAny_updateSeq_pair o2 fun g3 o3 s3 => ?_)
      refine wpAny_bind (wpAny_letGo (wpAny_pure ?_))
      refine wpAny_bind (wpAny_bind (wpAny_onRaise ?_))
      show wpAny _ _ (Builtin.SmallTypes.nextOf (.ref j) >>= _) _ _ _
      have q2 := ((h2.extBut s1.extBut D.i2z).extBut s2.extBut D.i12.symm).extBut s3.extBut D.TOi2.symm
      have r2 := ((hr.extBut s1.extBut D.l2z).extBut s2.extBut D.l2i1).extBut s3.extBut D.l2TO
      refine wpAny_bind (wpAny_nextOf_list_end hh q2 r2 hy fun g4 e s4 ⟨oe, e1, e2⟩ => ?_)
      have z4 : ZP g4 z TI TO .ellipsis n := s4 _ _ D.i2z.symm (s3.extBut _ _ D.TOz.symm (s2.extBut _ _ D.i1z.symm z1))
      have ne : e ≠ z := fun q => by subst q; rw [z4] at e1; cases e1; simp at e2
      exact wpAny_setField_rec z4 (by simp) fun g5 _ s5 => hE g5 e (fun c o n1 n2 n3 n4 q => s5.extBut _ _ n1 (s4 _ _ n4 (s3.extBut _ _ n2 (s2.extBut _ _ n3 (s1.extBut _ _ n1 q))))) ⟨oe, s5.extBut _ _ ne e1, e2⟩
  · simp only [if_neg (show ¬ (false = true) from Bool.false_ne_true)]
    refine wpAny_bind ?_
    simp only [List.forIn_toArray, List.forIn_cons, List.forIn_nil]
    refine wpAny_bind (wpAny_bind (wpAny_holding ?_))
    show wpAny _ _ (Builtin.SmallTypes.nextOf (.ref i) >>= _) _ _ _
    cases hx : xs[k]? with
    | none =>
      exact wpAny_bind (wpAny_nextOf_list_end hh (h1.extBut s0.extBut D.i1z) (hl.extBut s0.extBut D.l1z) hx fun g2 e s2 ee => hE g2 e (fun c o n1 _ n3 _ q => s2 _ _ n3 (s0.extBut _ _ n1 q)) ee)
    | some x =>
      have hy : ys[k]? = none := by rcases he with h | h; (rw [hx] at h; cases h); exact h
      refine wpAny_bind (wpAny_nextOf_list_item (h1.extBut s0.extBut D.i1z) (hl.extBut s0.extBut D.l1z) hx fun g2 p2 s2 => wpAny_pure (wpAny_pure ?_))
      refine wpAny_bind (wpAny_bind (wpAny_holding ?_))
      show wpAny _ _ (Builtin.SmallTypes.nextOf (.ref j) >>= _) _ _ _
      have q2 := (h2.extBut s0.extBut D.i2z).extBut s2.extBut D.i12.symm
      have r2 := (hr.extBut s0.extBut D.l2z).extBut s2.extBut D.l2i1
      exact wpAny_bind (wpAny_nextOf_list_end hh q2 r2 hy fun g4 e s4 ee => hE g4 e (fun c o n1 n2 n3 n4 q => s4 _ _ n4 (s2.extBut _ _ n3 (s0.extBut _ _ n1 q))) ee)
theorem wz_nextI {z TI TO i j l r : Addr} {k : Nat} {xs ys : Array Value} {x y a b m n : Value} {Q : Option Value → Shared → Prop} (D : ZipApart z TI TO i j l r)
    (hz : ZP s.heap z TI TO m n) (hm : Mk m) (hI : IsPair s.heap TI (.ref i) (.ref j)) (hO : IsPair s.heap TO a b)
    (h1 : s.heap.IsListIter i l k) (h2 : s.heap.IsListIter j r k) (hl : s.heap.IsList l xs) (hr : s.heap.IsList r ys) (hx : xs[k]? = some x) (hy : ys[k]? = some y)
    (hQ : ∀ h' m' n', ZP h' z TI TO m' n' → Mk m' → (∃ a b, IsPair h' TO a b) → h'.IsListIter i l (k + 1) → h'.IsListIter j r (k + 1) → IsPair h' s.heap.objs.size x y → h'.objs.size = s.heap.objs.size + 1 →
      (∀ c o, c ≠ z → c ≠ TO → c ≠ i → c ≠ j → s.heap.get? c = some o → h'.get? c = some o) → Q (some (.ref s.heap.objs.size)) { s with heap := h' }) : wpAny (model prog w) A (pyNext (.ref z)) Q E s := by
  have t : s.TypeIs (.ref z) "zip" := ⟨_, hz, rfl⟩
  unfold pyNext
  refine wpAny_bind (wpAny_attempt (wpAny_callSpecial?_slot (name := Str.ofString "__next__") t F.slot_zip_next ?_))
  refine wpAny_call_entry F.slot_zip_next t F.entry_zip_next ?_ (F.args_zip_next_1 _)
  exact wz_item D hz hm hI hO h1 h2 hl hr hx hy fun h' m' n' a1 a2 a3 a4 a5 a6 a7 a8 => wpAny_pure (hQ h' m' n' a1 a2 a3 a4 a5 a6 a7 a8)
theorem wz_nextE {z TI TO i j l r : Addr} {k : Nat} {xs ys : Array Value} {a b m n : Value} {Q : Option Value → Shared → Prop} (hh : A.handled = none) (D : ZipApart z TI TO i j l r)
    (hz : ZP s.heap z TI TO m n) (hm : Mk m) (hI : IsPair s.heap TI (.ref i) (.ref j)) (hO : IsPair s.heap TO a b)
    (h1 : s.heap.IsListIter i l k) (h2 : s.heap.IsListIter j r k) (hl : s.heap.IsList l xs) (hr : s.heap.IsList r ys) (he : xs[k]? = none ∨ ys[k]? = none)
    (hQ : ∀ h', (∀ c o, c ≠ z → c ≠ TO → c ≠ i → c ≠ j → s.heap.get? c = some o → h'.get? c = some o) → Q none { s with heap := h' }) : wpAny (model prog w) A (pyNext (.ref z)) Q E s := by
  have t : s.TypeIs (.ref z) "zip" := ⟨_, hz, rfl⟩
  unfold pyNext
  refine wpAny_bind (wpAny_attempt (wpAny_callSpecial?_slot (name := Str.ofString "__next__") t F.slot_zip_next ?_))
  refine wpAny_call_entry F.slot_zip_next t F.entry_zip_next ?_ (F.args_zip_next_1 _)
  refine wz_end hh D hz hm hI hO h1 h2 hl hr he fun h' e keep ⟨o, e1, e2⟩ => ?_
  exact wpAny_bind (wpAny_isInstance (T := "StopIteration") (b := true) ⟨o, e1, e2⟩ isSubtype_stop (wpAny_pure (hQ _ keep)))
theorem wz_iter {z TI TO : Addr} {m n : Value} {Q : Value → Shared → Prop} (hz : ZP s.heap z TI TO m n) (h : Q (.ref z) s) : wpAny (model prog w) A (pyIter (.ref z)) Q E s := by
  have t : s.TypeIs (.ref z) "zip" := ⟨_, hz, rfl⟩
  refine wpAny_pyIter_slot t F.slot_zip_iter (wpAny_call_entry F.slot_zip_iter t F.entry_zip_iter ?_ (F.args_zip_iter_1 _))
  show wpAny _ _ (ret (.ref z)) _ _ s
  exact wpAny_pure ⟨_, rfl, "zip", _, t, F.slot_zip_next.lookup, h⟩
end
section
variable {P : Program} {w : World} {K : PySem.W.Frag} {x : Str} {px : Pos}
/-- where each of the five things of the zip stands -/
theorem five {α : Type} {c z t o i j : α} {p : α → Prop} (h : c ∈ [z, t, o, i, j]) (h1 : p z) (h2 : p t) (h3 : p o) (h4 : p i) (h5 : p j) : p c := by
  simp only [List.mem_cons, List.not_mem_nil, or_false] at h
  rcases h with e | e | e | e | e <;> (subst e; assumption)
theorem turn_zipN {a b z t o i j : Addr} (D : ZipApart z t o i j a b) :
    Turn P w K (.Name x px) (Itz K a b) [z, t, o, i, j] z (fun k h => (∃ m n, ZP h z t o m n ∧ Mk m) ∧ IsPair h t (.ref i) (.ref j) ∧ (∃ x y, IsPair h o x y) ∧ h.IsListIter i a k ∧ h.IsListIter j b k) where
  mem := by simp
  obj := fun k h st c hc => by
    obtain ⟨⟨m, n, hz, _⟩, hI, ⟨x, y, hO⟩, ⟨o1, e1, _, d1⟩, ⟨o2, e2, _, d2⟩⟩ := st
    refine five (p := fun c => ∃ u, h.get? c = some u ∧ ∀ v, u.data ≠ .cell v) hc ⟨_, hz, fun v q => nomatch q⟩ ⟨_, hI, fun v q => nomatch q⟩ ⟨_, hO, fun v q => nomatch q⟩ ?_ ?_
    · exact ⟨o1, e1, fun v q => by rw [d1] at q; cases q⟩
    · exact ⟨o2, e2, fun v q => by rw [d2] at q; cases q⟩
  keep := fun k h h' st kk => by
    obtain ⟨⟨m, n, hz, hm⟩, hI, ⟨x, y, hO⟩, h1, h2⟩ := st
    exact ⟨⟨m, n, kk z (by simp) _ hz, hm⟩, kk t (by simp) _ hI, ⟨x, y, kk o (by simp) _ hO⟩, h1.at fun u q => kk i (by simp) u q, h2.at fun u q => kk j (by simp) u q⟩
  item := by
    intro X hP hw hK hc k pins s σ H E I hf st hg
    subst hP hw hK
    obtain ⟨⟨m, n, hz, hm⟩, hI, ⟨x0, y0, hO⟩, h1, h2⟩ := st
    obtain ⟨xs, ys, x, y, gx, gy, ex, ey⟩ := hg
    obtain ⟨its, rv, p, _⟩ := I.list gx
    obtain ⟨its2, rv2, p2, _⟩ := I.list gy
    obtain ⟨u, hu, ru⟩ := rv.get ex
    obtain ⟨u2, hu2, ru2⟩ := rv2.get ey
    refine wz_nextI D hz hm hI hO h1 h2 p.isList p2.isList (x := u) (y := u2) (by simpa using hu) (by simpa using hu2) fun h' m' n' z' mk' O' p1' p2' T' sz' keep => ?_
    have new : ObjOk X.prog X.w (upd H s.heap.objs.size (.tup [x, y])) h' s.heap.objs.size (.tup [x, y]) :=
      ⟨by show 2 ≤ sizeLine; decide, [u, u2], .cons ru (.cons ru2 .nil), ⟨_, T', rfl, _, rfl⟩⟩
    have I1 : Inv X pins σ (upd H s.heap.objs.size (.tup [x, y])) { s with heap := h' } := by
      refine I.turnedNew (t' := s.toks) (ch := [z, t, o, i, j]) (fun c u hb q => ?_) hf (Nat.le_refl _) new
      simp only [List.mem_cons, List.not_mem_nil, or_false, not_or] at hb
      exact keep c u hb.1 hb.2.2.1 hb.2.2.2.1 hb.2.2.2.2 q
    have tI : IsPair h' t (.ref i) (.ref j) := keep _ _ D.TIz D.TITO D.TIi1 D.TIi2 hI
    refine ⟨.ref s.heap.objs.size, rfl, wpAny_of_eq (rfl : letOwnedTupleGo (.Name _ px) (.ref z) _ = pure ()) ?_⟩
    refine ⟨.ref s.heap.objs.size, _, I1, rfl, ⟨_, x, y, rfl, I.hok.fresh (Nat.le_refl _), rfl, fun l hl => by rw [I.list_inj hl gx]; exact ex, fun l hl => by rw [I.list_inj hl gy]; exact ey⟩, ⟨⟨m', n', z', mk'⟩, tI, O', p1', p2'⟩, fun c hcm => ?_⟩
    have lt : c < s.heap.objs.size := five (p := (· < s.heap.objs.size)) hcm (Heap.lt_size hz) (Heap.lt_size hI) (Heap.lt_size hO) (by obtain ⟨_, e1, _⟩ := h1; exact Heap.lt_size e1) (by obtain ⟨_, e2, _⟩ := h2; exact Heap.lt_size e2)
    rw [upd_ne (Nat.ne_of_lt lt)]
    exact (hf c hcm).1
  done := by
    intro X hP hw hK hc k pins s σ H E I hf st hg
    subst hP hw hK
    obtain ⟨⟨m, n, hz, hm⟩, hI, ⟨x0, y0, hO⟩, h1, h2⟩ := st
    obtain ⟨xs, ys, gx, gy, hend⟩ := hg
    obtain ⟨its, rv, p, _⟩ := I.list gx
    obtain ⟨its2, rv2, p2, _⟩ := I.list gy
    have l1 := rv.length
    have l2 := rv2.length
    have he : its.toArray[k]? = none ∨ its2.toArray[k]? = none := hend.imp (fun q => by simp; omega) fun q => by simp; omega
    refine wz_nextE (I.ok.hd hc) D hz hm hI hO h1 h2 p.isList p2.isList he fun h' keep => ⟨rfl, I.turnedL (t' := s.toks) (ch := [z, t, o, i, j]) (fun c u hb q => ?_) hf⟩
    simp only [List.mem_cons, List.not_mem_nil, or_false, not_or] at hb
    exact keep c u hb.1 hb.2.2.1 hb.2.2.2.1 hb.2.2.2.2 q
  self := fun A i s Q E st h => let ⟨⟨_, _, e, _⟩, _⟩ := st; wz_iter e h
theorem pi_zipN {X : Cx} {e e2 : Expr} {ta : TA} {p pos : Pos} (hg : Gl X "zip") (hm : X.mg "zip" = none) (ha : PA X [e, e2] ta)
    (hs : starEach [e, e2] X.env = (false, eval e X.env) :: starEach [e2] X.env := by rfl) (hpl : (backTo pos (starEach [e2] X.env)).any (·.1) = false := by rfl) :
    PI X (.Name x px) (.Call (.Name "zip" p) [e, e2] [] pos) (iZip X.K ta) := by
  refine ⟨fun pins s σ H R I h => Call_ (ld_blt I hg hm PyProof.Rows.boot_zip ?_)⟩
  refine PyProof.Rows.callWith_type1 (thn (ha.run pos pins s σ H _ I h) ?_) hs hpl
  rintro us s1 ⟨vs, H1, I1, rr, a, b, xs, ys, rfl, gx, gy, q⟩
  cases rr with
  | cons r rr =>
    cases rr with
    | cons r' rr =>
      cases rr; cases r; cases r'
      obtain ⟨its, rv, p1, _⟩ := I1.list gx
      obtain ⟨its2, rv2, p2, _⟩ := I1.list gy
      refine call_zip_2 p1.isList p2.isList fun h' hz hI hO h1 h2 hsz hk => wz_iter hz ?_
      have I2 : Inv X pins σ H1 { s1 with heap := h' } := I1.kept (t' := s1.toks) hk
      have new : ∀ c, s1.heap.objs.size ≤ c → FpOk X pins H1 c := fun c le => I1.fpOk le (I1.hok.fresh le)
      have D := PySem.W.ktu_apart s1.heap.objs.size a b p1.lt p2.lt
      refine ⟨_, [s1.heap.objs.size + 4, s1.heap.objs.size + 2, s1.heap.objs.size + 3, s1.heap.objs.size, s1.heap.objs.size + 1], _, _, H1, rfl, I2, turn_zipN D, ⟨⟨_, _, hz, .inl rfl⟩, hI, ⟨_, _, hO⟩, h1, h2⟩, fun c hc => ?_, q⟩
      exact five (p := FpOk X pins H1) hc (new _ (Nat.le_add_right ..)) (new _ (Nat.le_add_right ..)) (new _ (Nat.le_add_right ..)) (new _ (Nat.le_refl _)) (new _ (Nat.le_add_right ..))
end
section
variable {X : Cx} {ct : Ct} {x : Str} {px pos p : Pos} {e e2 : Expr} {fe f2 : FE}
/-- lists alone -/
def fZipN (f g : FE) : FI := fun env M => bnd (f env M) fun a M1 => bnd (g env M1) fun b M2 => match a, b with
  | .loc m, .loc n => match M2[m]?, M2[n]? with
    | some (.lst xs), some (.lst ys) => match srcZ M2 (.loc m) (.loc n) with
      | some src => some (src, M2)
      | none => none
    | _, _ => none
  | _, _ => none
theorem si_zipN (hg : Gl X "zip") (hm : X.mg "zip" = none) (h : SE X ct e fe) (h2 : SE X ct e2 f2) (hs1 : starEach [e, e2] X.env = (false, eval e X.env) :: starEach [e2] X.env := by rfl) (hs2 : starEach [e2] X.env = [(false, eval e2 X.env)] := by rfl)
    (hpl : (backTo pos (starEach [e2] X.env)).any (·.1) = false := by rfl) : SI X ct (.Name x px) (.Call (.Name "zip" p) [e, e2] [] pos) (fZipN fe f2) := by
  refine PI.imp (pi_zipN hg hm (sa_cons h (sa_cons h2 sa_nil hs2) hs1) hs1 hpl) fun σ H R ⟨ρ, M, env, r, he, src, M', hf, hq⟩ => ?_
  obtain ⟨d, M1, h1, hf⟩ := bnd_some hf
  obtain ⟨d2, M2, h2, hf⟩ := bnd_some hf
  refine ⟨ρ, M, env, r, he, [d, d2], M2, by show bnd (fe env M) _ = _; rw [h1]; show bnd (bnd (f2 env M1) _) _ = _; rw [h2]; rfl, ?_⟩
  intro ρ1 H1 e1 r1 vs dvs
  obtain ⟨u, u', rfl, q1, q2⟩ := dvs_two dvs
  split at hf
  · split at hf
    · rename_i g1 g2
      split at hf
      · rename_i s0 hs
        cases hf
        simp only [srcZ, g1, g2, Option.some.injEq] at hs
        subst hs
        obtain ⟨a, ws, rfl, a1, a2, a3⟩ := r1.lst g1 q1
        obtain ⟨b, ws2, rfl, b1, b2, b3⟩ := r1.lst g2 q2
        exact ⟨_, _, _, _, rfl, SqL.of a2, SqL.of b2, hq ρ1 H1 e1 r1 _ (feeds_zipL a1 b1)⟩
      · cases hf
    · cases hf
  · cases hf
end
end Zl

/-! text Z31 -/
namespace Zl
open PySem L2 PySem.Spec PyProof.Rows
/-! ## {k: v for t in xs if c}, the keys nested tuples -/
section
variable {X : Cx}
/-- a comprehension's d[k] = v -/
theorem dset_N {pins : List (Addr × Obj)} {σ : L2.St} {H : Hp} {s : Shared} {E : Value → Shared → Prop} {D : Addr} {y z : V} {u r : Value} {Q : Unit → Shared → Prop} {R : Hp → Prop} (hu : X.A.units + 65 < cLine) (I : Inv X pins σ H s) (ry : RelV y u) (rz : RelV z r)
    (w : rSetN X (.ref D) y z H R) (k : ∀ s' H', Inv X pins σ H' s' → R H' → Q () s') : wpAny (model X.prog X.w) X.A (dictSet D u r) Q E s := by
  obtain ⟨ρ, a, kvs, xs, kd, k0, ea, h0, h1, h2, h3, hk, hkd, hl, q⟩ := w
  cases ea
  obtain ⟨b, rfl, rfl, ki⟩ := key_is I hkd ry hk
  have key : s.heap.DictOfH (nestedKind X.prog X.w) D xs ∧ (D == sysModules) = false ∧ Mut (H D) := by
    rcases h0 with h0 | ⟨rfl, h0⟩
    · obtain ⟨o, es, ep, g1, g2, g3, g4, g5, g6, g7⟩ := (I.hok D _ h0).1
      exact ⟨⟨o, es, ep, g1, g2, g3, g4, keys_are I h1 h2 h3, g5⟩, g7, by rw [h0]; trivial⟩
    · obtain ⟨dd, ds⟩ := dn_empty I h0
      exact ⟨dd, ds, by rw [h0]; trivial⟩
  obtain ⟨dd, ds, mu⟩ := key
  have room : (nestedKind X.prog X.w).room X.A := by show X.A.units + 8 < cLine; omega
  refine wpAny_dictSet_heap (hsz := by omega) room ki dd fun h' dd' sb => ?_
  have he : ∃ u, h'.get? D = some u := by
    obtain ⟨o, _, _, ho, _⟩ := dd'
    exact ⟨o, ho⟩
  have hlen : (storedH xs k0 b r).length ≤ sizeLine := by
    have := storedH_length xs k0 b r
    omega
  exact k _ _ (I.write (e := D) (t' := s.toks + (nestedKind X.prog X.w).draws k0) mu (.inl rfl) (fun b u hb hu => (sb.2 b hb).trans hu) he (ndic_new dd' hlen ds)) (q b r rfl rz)
/-- the new dict stands at D -/
def tDcN (X : Cx) (wi : TI) (g : TG) (tt : TT) (tk tv : TE) (vs : List Nat) : TE := fun σ H Q => wi σ H fun J H1 => ∀ D, H1 D = none → ∃ W : Nat → Nat → Hp → Prop, (∃ m, W 0 m (upd H1 D (.dK []))) ∧ ∀ i m H, W i m H →
  (J.stop i H ∧ Q (.ref D) H) ∨ (J.go i H ∧ ∃ Nx : Hp → Prop, (∀ H', Nx H' → ∃ m', m' < m ∧ W (i + 1) m' H') ∧ ∀ x H', J.yld i H x H' → g x (wipe σ vs) H' fun σ2 H2 => wipe σ2 vs = wipe σ vs ∧ tt σ2 H2 fun b H3 =>
    if b = true then tk σ2 H3 fun y H4 => tv σ2 H4 fun z H5 => rSetN X (.ref D) y z H5 Nx else Nx H3)
theorem dcN_core {pins : List (Addr × Obj)} {s : Shared} {σ : L2.St} {H : Hp} {Q : VK} {kx vx tg iter : Expr} {ifs : List Expr} {scope : Scope} {own : List (Str × Nat)} {pos pos' : Pos} {wi : TI} {g : TG} {tt : TT} {tk tv : TE} {use : Option (Value → Sem Unit)} {Qf : Value → Shared → Prop}
    (hu : X.A.units + 65 < cLine) (hc : X.calm = true) (hN : X.N.Nodup) (I : Inv X pins σ H s) (hi : PI X tg iter wi) (ok : BlkOk X.N X.env.scope scope own)
    (hg : ∀ s H C cl fp, PG (Cx.cb X scope s H C cl fp) tg g) (ht : ∀ s H C cl fp, PTs (Cx.cb X scope s H C cl fp) ifs tt) (hk : ∀ s H C cl fp, PE (Cx.cb X scope s H C cl fp) kx tk) (he : ∀ s H C cl fp, PE (Cx.cb X scope s H C cl fp) vx tv) (hs : ∀ x, foldedSetIterable iter X.env x = pure x)
    (h : tDcN X wi g tt tk tv (own.map (·.2)) σ H Q)
    (fin0 : ∀ D C s' m H', Inv X pins σ H' s' → Q (.ref D) H' → s'.heap.Ns C m → FpOk X pins H' C → compPost (model X.prog X.w) X.A X.xe use Qf (.ref D) C (.ok .next) s') :
    wpAny (model X.prog X.w) X.A (comprehension (.DictComp kx vx [⟨tg, iter, ifs, 0⟩] scope pos) scope X.env pos' newDict false (eval iter X.env) use) Qf X.xe s := by
  have fr : ∀ y ∈ scope.names, y.2 = .free → ∃ c, X.env.cells.lookup y.1 = some c := fun y hy e => (ok.free y hy e).elim (fun k => I.ok.has _ (.inl k)) fun k => I.ok.has _ (.inr k)
  refine wpAny_comprehension_free (use := use) rfl hs (closure_ok fr) ok.kind (fun y hy e => by rw [ok.uniq y hy, e]) (thn (hi.run pins s σ H _ I h) fun xv t1 hx => thn hx fun itv t2 z => ?_)
  obtain ⟨it, fp, tn, J, B2, e, J2, T, u2, v2, q⟩ := z
  subst e
  refine wpAny_newObj_type (newEnv_comp ?_)
  generalize eD : t2.heap.objs.size = D
  obtain ⟨W, ⟨m0, w0⟩, turn⟩ := q D (J2.hok.fresh (Nat.le_of_eq eD))
  generalize e3 : ({ t2 with heap := t2.heap.push { cls := .type "dict", data := .dict #[] } } : Shared) = t3
  have hp3 : t3.heap = t2.heap.push { cls := .type "dict", data := .dict #[] } := by rw [← e3]
  have J3 : Inv X pins σ (upd B2 D (.dK [])) t3 := by
    rw [← e3]
    refine J2.laid (t' := t2.toks) (fun b o e => Heap.get?_push_of_some _ e) (Nat.le_of_eq eD) ?_
    rw [← eD]
    exact dk_empty t2.heap J2.big
  have lo : ∀ b ∈ fp, b < t2.heap.objs.size := fun b hb => by obtain ⟨o, e, _⟩ := T.obj _ _ u2 b hb; exact Heap.lt_size e
  have f3 : ∀ b ∈ fp, FpOk X pins (upd B2 D (.dK [])) b ∧ b < t3.heap.objs.size := fun b hb => ⟨⟨by rw [upd_ne (by rw [← eD]; exact Nat.ne_of_lt (lo b hb))]; exact (v2 b hb).1, (v2 b hb).2⟩, by rw [hp3, Heap.size_push]; exact Nat.lt_succ_of_lt (lo b hb)⟩
  have u3 : tn 0 t3.heap := T.keep _ _ _ u2 fun b _ o e => by rw [hp3]; exact Heap.get?_push_of_some _ e
  have J4 := block_start J3 ok hN f3
  generalize ecl : cellsFrom (t3.heap.objs.size + 1) scope.names (cloFrom X.env.cells scope.names []) = cl at J4 ⊢
  have pg : PG (X.blk t3 (upd B2 D (.dK [])) scope (compEnvC scope cl t3.heap.objs.size X.env) fp) tg g := hg t3 _ _ cl fp
  have pt : PTs (X.blk t3 (upd B2 D (.dK [])) scope (compEnvC scope cl t3.heap.objs.size X.env) fp) ifs tt := ht t3 _ _ cl fp
  have pk : PE (X.blk t3 (upd B2 D (.dK [])) scope (compEnvC scope cl t3.heap.objs.size X.env) fp) kx tk := hk t3 _ _ cl fp
  have pe : PE (X.blk t3 (upd B2 D (.dK [])) scope (compEnvC scope cl t3.heap.objs.size X.env) fp) vx tv := he t3 _ _ cl fp
  have nf : ∀ b ∈ fp, (upd B2 D (.dK [])) b = none := fun b hb => (f3 b hb).1.1
  subst ecl
  show codeAny _ _ (.compStart (.DictComp kx vx [⟨tg, iter, ifs, 0⟩] scope pos) 0 (.ref it) (.ref D) (compEnvC scope (cellsFrom (t3.heap.objs.size + 1) scope.names (cloFrom X.env.cells scope.names [])) t3.heap.objs.size X.env)) (compPost (model X.prog X.w) X.A X.xe use Qf (.ref D) t3.heap.objs.size) { t3 with heap := pushCells (t3.heap.push { cls := .type "dict", data := .dict #[] }) scope.names }
  generalize hce : compEnvC scope (cellsFrom (t3.heap.objs.size + 1) scope.names (cloFrom X.env.cells scope.names [])) t3.heap.objs.size X.env = ce at J4 pg pt pk pe ⊢
  have cL : ce.locals = t3.heap.objs.size := by subst hce; rfl
  generalize eB3 : upd B2 D (.dK []) = B3 at J3 J4 pg pt pk pe w0 nf f3
  generalize e4 : ({ t3 with heap := pushCells (t3.heap.push { cls := .type "dict", data := .dict #[] }) scope.names } : Shared) = t4 at J4 ⊢
  have u4 : tn 0 t4.heap := T.keep _ _ _ u3 fun b _ o e => by rw [← e4]; exact pushCells_keeps _ _ _ _ (Heap.get?_push_of_some _ e)
  have fpo : ∀ {σ' : L2.St} {H' : Hp} {s' : Shared}, Inv (X.blk t3 B3 scope ce fp) [] σ' H' s' → (∀ b ∈ fp, H' b = none) → ∀ b ∈ fp, FpOk (X.blk t3 B3 scope ce fp) [] H' b := fun {σ' H' s'} K hn b hb =>
    ⟨hn b hb, (K.ok.exf b hb).1, K.ok.exfs b hb, .inl hb, fun x c e => (K.ok.exf b hb).2 x c e, fun p hp => absurd (show p ∈ ([] : List (Addr × Obj)) ++ [] from hp) (by simp)⟩
  have loop : codeAny (model X.prog X.w) X.A (.compLoop (.DictComp kx vx [⟨tg, iter, ifs, 0⟩] scope pos) 0 (.ref it) (.ref D) ce) (compPost (model X.prog X.w) X.A X.xe use Qf (.ref D) t3.heap.objs.size) t4 := by
    refine compLoop_anyD (fun n s' => ∃ i H', Inv (X.blk t3 B3 scope ce fp) [] (wipe σ (own.map (·.2))) H' s' ∧ tn i s'.heap ∧ (∀ b ∈ fp, H' b = none) ∧ W i n H') ?_ m0 ⟨0, B3, J4, u4, nf, w0⟩
    rintro n t5 ⟨i, B5, J5, u5, n5, w5⟩
    rcases turn i n B5 w5 with ⟨stop, qq⟩ | ⟨go, Nx, hNx, step⟩
    · refine thnF (T.done (X.blk t3 B3 scope ce fp) rfl rfl rfl hc i [] t5 _ B5 (fun _ _ => False) J5 (fpo J5 n5) u5 stop) fun r t6 z => ?_
      obtain ⟨rfl, J6⟩ := z
      have J7 : Inv X pins σ B5 t6 := J3.call' (ch := fp) J6.os J6.base J6.hok J6.bare fun b hb => ⟨(f3 b hb).1.2.2.2.1, (f3 b hb).1.2.1, (f3 b hb).1.2.2.2.2.1, (f3 b hb).1.2.2.2.2.2⟩
      have nC : B5 t3.heap.objs.size = none := cL ▸ (show B5 ce.locals = none from J6.free)
      obtain ⟨m, hn, _⟩ := J6.loc
      have hn : t6.heap.Ns t3.heap.objs.size m := cL ▸ (show t6.heap.Ns ce.locals m from hn)
      exact fin0 D t3.heap.objs.size t6 m B5 J7 qq hn (J3.fpOk (Nat.le_refl _) nC)
    · refine thnF (T.item (X.blk t3 B3 scope ce fp) rfl rfl rfl hc i [] t5 _ B5 (fun _ _ => False) J5 (fpo J5 n5) u5 go) fun r t6 z => ?_
      obtain ⟨u, rfl, h6⟩ := z
      refine thnF h6 fun _ t7 ⟨x, B7, J7, r7, y7, u7, n7⟩ => ?_
      refine thnF (pg.run _ t7 _ B7 x u _ (J7.pinned (fpo J7 n7) (T.obj _ _ u7)) r7 (step x B7 y7)) fun _ t8 ⟨σ8, B8, J8, w8, q8⟩ => ?_
      refine thnF (pt.run _ t8 σ8 B8 _ J8 q8) fun b t9 ⟨B9, J9, q9⟩ => ?_
      have done : ∀ {s' : Shared} {H' : Hp}, Inv (X.blk t3 B3 scope ce fp) ([] ++ pinsAt fp t7.heap) σ8 H' s' → Nx H' → ∃ m, m < n ∧ ∃ i H', Inv (X.blk t3 B3 scope ce fp) [] (wipe σ (own.map (·.2))) H' s' ∧ tn i s'.heap ∧ (∀ b ∈ fp, H' b = none) ∧ W i m H' := fun {s' H'} K nx => by
        obtain ⟨m', hm, w'⟩ := hNx H' nx
        have pn : ∀ b ∈ fp, ∀ o, t7.heap.get? b = some o → s'.heap.get? b = some o ∧ H' b = none := fun b hb o e => have z := K.pin (b, o) (List.mem_append_right _ (List.mem_append_right _ (mem_pinsAt hb e))); ⟨z.1, z.2.1⟩
        refine ⟨m', hm, i + 1, H', (K.unpinned (pins := [])).weak (by rw [← w8, wipe_length]) (fun j v e => ?_), T.keep _ _ _ u7 fun b hb o e => (pn b hb o e).1, fun b hb => ?_, w'⟩
        · rw [← w8] at e; exact (wipe_some e).1
        · obtain ⟨o, e, _⟩ := T.obj _ _ u7 b hb; exact (pn b hb o e).2
      cases b with
      | false => simp only [Bool.false_eq_true, if_false] at q9 ⊢; exact done J9 q9
      | true =>
        simp only [if_true] at q9 ⊢
        refine thnF (pk.run _ t9 σ8 B9 _ J9 q9) fun z1 t10 ⟨y1, B10, J10, r10, q10⟩ => ?_
        refine thnF (pe.run _ t10 σ8 B10 _ J10 q10) fun z2 t11 ⟨y2, B11, J11, r11, q11⟩ => ?_
        exact dset_N (X := X.blk t3 B3 scope ce fp) hu J11 r10 r11 q11 fun t12 B12 J12 nx => done J12 nx
  exact codeAny_compStart_dict loop (T.self X.A 0 _ _ _ u4 loop)
theorem pe_dcN {kx vx tg iter : Expr} {ifs : List Expr} {scope : Scope} {own : List (Str × Nat)} {pos : Pos} {wi : TI} {g : TG} {tt : TT} {tk tv : TE} (hu : X.A.units + 65 < cLine) (hc : X.calm = true) (hN : X.N.Nodup) (hi : PI X tg iter wi) (ok : BlkOk X.N X.env.scope scope own)
    (hg : ∀ s H C cl fp, PG (Cx.cb X scope s H C cl fp) tg g) (ht : ∀ s H C cl fp, PTs (Cx.cb X scope s H C cl fp) ifs tt) (hk : ∀ s H C cl fp, PE (Cx.cb X scope s H C cl fp) kx tk) (he : ∀ s H C cl fp, PE (Cx.cb X scope s H C cl fp) vx tv) (hs : ∀ x, foldedSetIterable iter X.env x = pure x := by intro _; rfl) :
    PE X (.DictComp kx vx [⟨tg, iter, ifs, 0⟩] scope pos) (tDcN X wi g tt tk tv (own.map (·.2))) := by
  refine ⟨fun pins s σ H Q I h => ?_⟩
  rw [arm_eval_DictComp]
  refine dcN_core hu hc hN I hi ok hg ht hk he hs h fun D C s' m H' I' q hn f => ⟨m, hn, fun h2 sb => ?_⟩
  obtain ⟨f0, f1, f2, f3, f4, f5⟩ := f
  exact ⟨.ref D, H', I'.turned (t' := s'.toks) (fun b o hb e => (sb.2 b hb).trans e) f0 f1 f3 f4 f5, rfl, q⟩
/-- name = {..} on one line, the name a local -/
theorem sw_trueD {kx vx : Expr} {gs : List Comprehension} {scope : Scope} {pos py : Pos} {y : Str} {l : Nat} {env : Env} (hk : env.scope.kind = .function) (hy : env.scope.names.lookup y = some .local) (hl : (py.line == pos.line) = true)
    (ha : (scope.names.any fun (n, k) => n == y && (k == .local || k == .cell)) = false) : swapsWith (.DictComp kx vx gs scope pos) (some (.Name y py)) l env = pure true := by
  have e1 : env.kindOf y = some .local := hy
  have e2 : env.blockKind = .function := by unfold Env.blockKind; rw [hk]; rfl
  unfold swapsWith
  simp only [e2, e1, ha, Expr.pos, hl]; rfl
theorem ps_setDcN {i : Nat} {y : Str} {py : Pos} {kx vx tg iter : Expr} {ifs : List Expr} {scope : Scope} {own : List (Str × Nat)} {pos spos : Pos} {wi : TI} {g : TG} {tt : TT} {tk tv : TE} (hu : X.A.units + 65 < cLine) (hc : X.calm = true) (hN : X.N.Nodup) (hy : X.N[i]? = some y) (hyl : X.env.scope.names.lookup y = some .local)
    (hsw : swapsWith (.DictComp kx vx [⟨tg, iter, ifs, 0⟩] scope pos) (some (.Name y py)) spos.line X.env = pure true) (hi : PI X tg iter wi) (ok : BlkOk X.N X.env.scope scope own)
    (hg : ∀ s H C cl fp, PG (Cx.cb X scope s H C cl fp) tg g) (ht : ∀ s H C cl fp, PTs (Cx.cb X scope s H C cl fp) ifs tt) (hk : ∀ s H C cl fp, PE (Cx.cb X scope s H C cl fp) kx tk) (he : ∀ s H C cl fp, PE (Cx.cb X scope s H C cl fp) vx tv) (hs : ∀ x, foldedSetIterable iter X.env x = pure x := by intro _; rfl) :
    PS X (.Assign [.Name y py] (.DictComp kx vx [⟨tg, iter, ifs, 0⟩] scope pos) spos) (tAsg (tDcN X wi g tt tk tv (own.map (·.2))) (gName i)) := by
  refine ⟨fun pins s σ H D I h => ?_⟩
  rw [exec_Assign_Name_used _ _ _ _ hsw]
  refine wpAny_bind (wpAny_standAt (wpAny_bind ?_))
  refine (show wpAny _ X.A (do let _ ← comprehension (.DictComp kx vx [⟨tg, iter, ifs, 0⟩] scope pos) scope X.env (firstIterPos [⟨tg, iter, ifs, 0⟩] pos) newDict false (eval iter X.env) (some (assign (.Name y py) X.env))) _ _ s from ?_)
  have w : tDcN X wi g tt tk tv (own.map (·.2)) σ H (fun x H1 => gName i x σ H1 D.nx) := h
  refine wpAny_bind (thn (dcN_core (Qf := fun _ z => SP X pins D .next z) hu hc hN I hi ok hg ht hk he hs w fun L C z m B J q hn f => ?_) fun _ z hq => wpAny_pure (wpAny_pure hq))
  refine (show wpAny _ _ (assign (.Name y py) X.env (.ref L)) _ _ _ from wpAny_assign_Name (store_ok2 (v := V.ref L) J hN hy (.inl hyl) rfl (fun z2 J2 ⟨a, sb, ha⟩ => ?_) (.inr hyl)))
  obtain ⟨f0, f1, f2, f3, f4, f5⟩ := f
  have ne : C ≠ a := ha.elim (fun q => q ▸ f1) fun q e => f4 y a q e.symm
  exact ⟨m, hn.sameBut sb ne, fun g3 sb3 => ⟨_, B, J2.turned (t' := z2.toks) (fun b o hb e => (sb3.2 b hb).trans e) f0 f1 f3 f4 f5, q⟩⟩
end
/-- d[k] = v at a cell -/
def setN (n : Nat) (i v : Dv) (M : Mem) : Option Mem := match keyN i with
  | some k => match M[n]? with
    | some (.dct []) => some (M.set n (.dcn (putN [] k i v)))
    | some (.dcn kvs) => if kvs.length < sizeLine then some (M.set n (.dcn (putN kvs k i v))) else none
    | _ => none
  | none => none
def compDF (it : Stp) (g : FG) (ft : FT) (fk fv : FE) (e0 : En) (n : Nat) : Nat → Nat → Mem → Option Mem
  | 0, i, M => match it i M with
    | some none => some M
    | _ => none
  | k + 1, i, M => match it i M with
    | some none => some M
    | some (some d) => match g d e0 M with
      | some (e1, M1) => match ft e1 M1 with
        | some (true, M2) => match fk e1 M2 with
          | some (y, M3) => match fv e1 M3 with
            | some (z, M4) => match setN n y z M4 with
              | some M5 => compDF it g ft fk fv e0 n k (i + 1) M5
              | none => none
            | none => none
          | none => none
        | some (false, M2) => compDF it g ft fk fv e0 n k (i + 1) M2
        | none => none
      | none => none
    | none => none
def fCompD (fi : FI) (vs : List Nat) (g : FG) (ft : FT) (fk fv : FE) : FE := fun env M => bnd (fi env M) fun src M1 =>
  match compDF src.stp g ft fk fv (wipeE env vs) M1.length src.many 0 (M1 ++ [.dct []]) with
  | some M2 => some (.loc M1.length, M2)
  | none => none
section
variable {X : Cx} {ct : Ct} {tg iter : Expr} {pos : Pos} {fi : FI} {g : FG}
theorem setN_ok {ρ : List Addr} {M M' : Mem} {H : Hp} {n : Nat} {D : Addr} {y z : Dv} {vy vz : V} {R : Hp → Prop} (hp : ct.prg = X.prog) (hw : ct.wd = X.w) (r : Rl X.K ct ρ M H) (aD : ρ[n]? = some D) (hs : setN n y z M = some M') (dy : DV X.K ρ H y vy) (dz : DV X.K ρ H z vz)
    (k : ∀ H', Rl X.K ct ρ M' H' → Ext X.K ρ H ρ H' → R H') : rSetN X (.ref D) vy vz H R := by
  unfold setN at hs
  split at hs
  · rename_i k0 hk
    split at hs
    · rename_i hm
      cases hs
      obtain ⟨a, vs, e, a1, a2, a3, a4⟩ := r.dct hm (.loc aD)
      cases e
      have ev : vs = [] := List.length_eq_zero_iff.mp (by have := congrArg List.length a3; simpa using this.symm)
      subst ev
      refine ⟨ρ, D, [], [], y, k0, rfl, .inr ⟨rfl, a2⟩, rfl, fun p hp => by simp at hp, .nil, hk, dy, by decide, fun b u' eb ru => ?_⟩
      subst eb
      obtain ⟨ws', p1, p2, p3, p4, p5⟩ := put_ofN (kvs := []) (xs := []) (vs := []) hk dy dz ru rfl (fun p hp => by simp at hp) .nil .nil .nil
      have sf : Ext X.K ρ H ρ (upd H D (NDic X.prog X.w D (storedH [] k0 b u'))) := Ext.soft (fun _ _ h => h) (soft_of a2 rfl).1 (soft_of a2 rfl).2
      obtain ⟨r3, e3⟩ := r.put (o := .dcn (putN [] k0 y z)) (o' := NDic X.prog X.w D (storedH [] k0 b u')) aD a2 ⟨_, ws', by rw [upd_same, hp, hw], p1, p2, p3.mono sf, p4.mono sf, p5⟩
      exact k _ r3 e3
    · rename_i kvs hm
      split at hs
      · rename_i hl
        cases hs
        obtain ⟨a, xs, vs, e, a1, a2, a3, a4, a5, a6, a7⟩ := r.dcn hm (.loc aD)
        cases e
        have hlen : kvs.length = xs.length := by have := congrArg List.length a3; simpa using this
        refine ⟨ρ, D, kvs, xs, y, k0, rfl, .inl (by rw [a2, hp, hw]), a3, a4, a5, hk, dy, hlen ▸ hl, fun b u' eb ru => ?_⟩
        subst eb
        obtain ⟨ws', p1, p2, p3, p4, p5⟩ := put_ofN hk dy dz ru a3 a4 a5 a6 a7
        have sf : Ext X.K ρ H ρ (upd H D (NDic X.prog X.w D (storedH xs k0 b u'))) := Ext.soft (fun _ _ h => h) (soft_of a2 rfl).1 (soft_of a2 rfl).2
        obtain ⟨r3, e3⟩ := r.put (o := .dcn (putN kvs k0 y z)) (o' := NDic X.prog X.w D (storedH xs k0 b u')) aD a2 ⟨_, ws', by rw [upd_same, hp, hw], p1, p2, p3.mono sf, p4.mono sf, p5⟩
        exact k _ r3 e3
      · cases hs
    · cases hs
  · cases hs
theorem dcN_imp {vs : List Nat} {ft : FT} {fk fv : FE} {σ : L2.St} {H : Hp} {Q : VK} (hp : ct.prg = X.prog) (hw : ct.wd = X.w) (w : tE X.K ct (fCompD fi vs g ft fk fv) σ H Q) : tDcN X (tI X.K ct fi) (tG X.K ct vs g) (tT X.K ct ft) (tE X.K ct fk) (tE X.K ct fv) vs σ H Q := by
  obtain ⟨ρ, M, env, r, he, d, M', hf, hq⟩ := w
  obtain ⟨src, M1, h1, hf⟩ := bnd_some hf
  split at hf
  · rename_i M2 hc
    cases hf
    refine ⟨ρ, M, env, r, he, src, M1, h1, fun ρ0 H0 e0 r0 J hJ D hD => ?_⟩
    obtain ⟨rN, xN, aN⟩ := r0.new (o := .dct []) (o' := .dK []) hD ⟨[], upd_same, rfl, .nil⟩
    refine ⟨fun i m H => ∃ ρ M, Ext X.K ρ0 H0 ρ H ∧ Rl X.K ct ρ M H ∧ ρ[M1.length]? = some D ∧ compDF src.stp g ft fk fv (wipeE env vs) M1.length m i M = some M' ∧ Aft X.K ct ρ H M' fun ρ' H' => ∀ v, DV X.K ρ' H' (.loc M1.length) v → Q v H',
      ⟨src.many, ρ0 ++ [D], _, xN, rN, aN, hc, (hq.later e0).later xN⟩, ?_⟩
    rintro i m H ⟨ρ, M, x0, r, aD, hf, hq⟩
    have hj := hJ i ρ M H x0 r
    have he' := ((he.mono e0).mono x0).wipe vs
    cases q : src.stp i M with
    | none =>
      cases m with
      | zero => rw [compDF, q] at hf; cases hf
      | succ m => rw [compDF, q] at hf; cases hf
    | some o =>
      rw [q] at hj
      cases o with
      | none =>
        have e : some M = some M' := by
          cases m with
          | zero => rw [compDF, q] at hf; exact hf
          | succ m => rw [compDF, q] at hf; exact hf
        cases e
        exact .inl ⟨hj, hq ρ H .refl r _ (.loc aD)⟩
      | some d =>
        cases m with
        | zero => rw [compDF, q] at hf; cases hf
        | succ m =>
          rw [compDF, q] at hf
          dsimp only at hf
          refine .inr ⟨hj.1, fun H' => ∃ ρ M, Ext X.K ρ0 H0 ρ H' ∧ Rl X.K ct ρ M H' ∧ ρ[M1.length]? = some D ∧ compDF src.stp g ft fk fv (wipeE env vs) M1.length m (i + 1) M = some M' ∧ Aft X.K ct ρ H' M' fun ρ' H' => ∀ v, DV X.K ρ' H' (.loc M1.length) v → Q v H',
            fun H' n => ⟨m, Nat.lt_succ_self m, n⟩, fun x H' hy => ?_⟩
          obtain ⟨y1, y2, y3⟩ := hj.2 x H' hy
          split at hf
          · rename_i e1 N1 g1
            refine ⟨ρ, M, wipeE env vs, d, y2, he'.mono y1, y3, e1, N1, g1, fun ρ1 H1 x1 r1 σ1 en1 oe => ⟨wipe_eq oe, ?_⟩⟩
            split at hf
            · rename_i N2 g2
              refine ⟨ρ1, N1, e1, r1, en1, true, N2, g2, fun ρ2 H2 x2 r2 => ?_⟩
              dsimp only
              rw [if_pos rfl]
              split at hf
              · rename_i y N3 g3
                refine ⟨ρ2, N2, e1, r2, en1.mono x2, _, N3, g3, fun ρ3 H3 x3 r3 v dv => ?_⟩
                split at hf
                · rename_i z N4 g4
                  refine ⟨ρ3, N3, e1, r3, (en1.mono x2).mono x3, _, N4, g4, fun ρ4 H4 x4 r4 v2 dv2 => ?_⟩
                  split at hf
                  · rename_i N5 g5
                    have xx := (((y1.trans x1).trans x2).trans x3).trans x4
                    refine setN_ok hp hw r4 (xx.pre _ _ aD) g5 (dv.mono x4) dv2 fun H5 r5 x5 => ?_
                    exact ⟨ρ4, _, (x0.trans xx).trans x5, r5, x5.pre _ _ (xx.pre _ _ aD), hf, hq.later (xx.trans x5)⟩
                  · cases hf
                · cases hf
              · cases hf
            · rename_i N2 g2
              refine ⟨ρ1, N1, e1, r1, en1, false, N2, g2, fun ρ2 H2 x2 r2 => ?_⟩
              dsimp only
              rw [if_neg (by decide)]
              have xx := (y1.trans x1).trans x2
              exact ⟨ρ2, N2, x0.trans xx, r2, xx.pre _ _ aD, hf, hq.later xx⟩
            · cases hf
          · cases hf
  · cases hf
theorem se_compD {kx vx : Expr} {ifs : List Expr} {scope : Scope} {own : List (Str × Nat)} {ft : FT} {fk fv : FE} (hu : X.A.units + 65 < cLine) (hc : X.calm = true) (hN : X.N.Nodup) (hi : SI X ct tg iter fi) (ok : BlkOk X.N X.env.scope scope own)
    (hg : ∀ s H C cl fp, SG (Cx.cb X scope s H C cl fp) ct (own.map (·.2)) tg g) (ht : ∀ s H C cl fp, STs (Cx.cb X scope s H C cl fp) ct ifs ft)
    (hk : ∀ s H C cl fp, SE (Cx.cb X scope s H C cl fp) ct kx fk) (he : ∀ s H C cl fp, SE (Cx.cb X scope s H C cl fp) ct vx fv) (hs : ∀ x, foldedSetIterable iter X.env x = pure x := by intro _; rfl) (hp : ct.prg = X.prog := by rfl) (hw : ct.wd = X.w := by rfl) :
    SE X ct (.DictComp kx vx [⟨tg, iter, ifs, 0⟩] scope pos) (fCompD fi (own.map (·.2)) g ft fk fv) :=
  PE.imp (pe_dcN hu hc hN hi ok hg ht hk he hs) fun _ _ _ w => dcN_imp hp hw w
theorem ss_setDcN {i : Nat} {y : Str} {py : Pos} {kx vx : Expr} {ifs : List Expr} {scope : Scope} {own : List (Str × Nat)} {ft : FT} {fk fv : FE} {spos : Pos} (hu : X.A.units + 65 < cLine) (hc : X.calm = true) (hN : X.N.Nodup) (hy : X.N[i]? = some y) (hyl : X.env.scope.names.lookup y = some .local)
    (hsw : swapsWith (.DictComp kx vx [⟨tg, iter, ifs, 0⟩] scope pos) (some (.Name y py)) spos.line X.env = pure true) (hi : SI X ct tg iter fi) (ok : BlkOk X.N X.env.scope scope own)
    (hg : ∀ s H C cl fp, SG (Cx.cb X scope s H C cl fp) ct (own.map (·.2)) tg g) (ht : ∀ s H C cl fp, STs (Cx.cb X scope s H C cl fp) ct ifs ft)
    (hk : ∀ s H C cl fp, SE (Cx.cb X scope s H C cl fp) ct kx fk) (he : ∀ s H C cl fp, SE (Cx.cb X scope s H C cl fp) ct vx fv) (hs : ∀ x, foldedSetIterable iter X.env x = pure x := by intro _; rfl) (hp : ct.prg = X.prog := by rfl) (hw : ct.wd = X.w := by rfl) :
    SS X ct (.Assign [.Name y py] (.DictComp kx vx [⟨tg, iter, ifs, 0⟩] scope pos) spos) (fSet i (fCompD fi (own.map (·.2)) g ft fk fv)) :=
  PS.imp (ps_setDcN hu hc hN hy hyl hsw hi ok hg ht hk he hs) fun D σ H ⟨ρ, M, env, r, hen, fl, M', hf, hq⟩ => by
    obtain ⟨d, M1, h1, hf⟩ := bnd_some hf
    cases hf
    exact dcN_imp hp hw ⟨ρ, M, env, r, hen, d, _, h1, fun ρ1 H1 e1 r1 v dv => hq ρ1 H1 e1 r1 _ ((hen.mono e1).set i dv)⟩
end
end Zl

/-! text Z32 -/
namespace Zl
open PySem L2 PySem.Spec PyProof.Rows
/-! ## list(d), d a dict whose keys are nested tuples -/
theorem vals_ofRefs : ∀ xs : List (NestedKey × Addr × Value), Vals (xs.map fun x => V.ref x.2.1) (xs.map fun x => Value.ref x.2.1)
  | [] => .nil
  | _ :: r => .cons rfl (vals_ofRefs r)
section
variable {X : Cx} {ct : Ct}
theorem call_list_dN (hc : X.calm = true) : CallR X (.type "list") (fun xs H Q => ∃ d ys, xs = [V.ref d] ∧ H d = some (NDic X.prog X.w d ys) ∧ ∀ p, H p = none → Q (.ref p) (upd H p (.lst (ys.map fun x => V.ref x.2.1)))) := by
  intro pins s σ H xs us Q I r h
  obtain ⟨d, ys, rfl, hd, q⟩ := h
  obtain ⟨u, rfl, rx⟩ := r.one
  cases rx
  obtain ⟨o, es, ep, g1, g2, g3, g4, g5, g6, g7⟩ := (I.hok d _ hd).1
  have l1 : es.size = ys.length := size_of_entries g4
  refine PySem.W.kdl_call (kdl_raw g7 g2 g3) (I.ok.hd hc) g1 (by omega) fun h' tk acc' c' kp e it => ?_
  have ea : acc'.toList = ys.map fun x => Value.ref x.2.1 := by
    have hl : acc'.toList.length = ys.length := by rw [Array.length_toList, it.1]; exact l1
    refine List.ext_getElem? fun j => ?_
    rw [List.getElem?_map]
    cases hj : acc'.toList[j]? with
    | none =>
      have h1 := List.getElem?_eq_none_iff.mp hj
      rw [List.getElem?_eq_none (by omega)]; rfl
    | some v =>
      obtain ⟨en, hen, hv⟩ := it.2 j v (by rw [← Array.getElem?_toList]; exact hj)
      have qe := entry_at g4 j
      rw [hen] at qe
      cases hb : ys[j]? with
      | none => rw [hb] at qe; cases qe
      | some b =>
        rw [hb] at qe
        cases qe
        rw [hv]; rfl
  have rv : Vals (ys.map fun x => V.ref x.2.1) acc'.toList := by rw [ea]; exact vals_ofRefs _
  refine ⟨.ref s.heap.objs.size, _, I.laid (t' := tk) (o := .lst (ys.map fun x => V.ref x.2.1)) kp (Nat.le_refl _) ⟨by rw [List.length_map]; omega, acc'.toList, c', rv, by rw [Array.toArray_toList]; exact e⟩, rfl, q _ (I.hok.fresh (Nat.le_refl _))⟩
def lstG : List Dv → Mem → Rz
  | [.loc n], M => match M[n]? with
    | some (.dcn kvs) => some (.loc M.length, M ++ [.lst (kvs.map fun p => p.2.1)])
    | _ => lstF [.loc n] M
  | ds, M => lstF ds M
theorem sc_listG (hc : X.calm = true) (hp : ct.prg = X.prog := by rfl) (hw : ct.wd = X.w := by rfl) : SC X ct (.type "list") lstG := by
  intro pins s σ H xs us Q I rv h
  obtain ⟨ρ, M, ds, r, dv, z, M', hf, hq⟩ := h
  unfold lstG at hf
  split at hf
  · split at hf
    · rename_i kvs hm
      cases hf
      obtain ⟨v, rfl, d1⟩ := dvs_one dv
      obtain ⟨a, ys, vs, rfl, a1, a2, a3, a4, a5, a6, a7⟩ := r.dcn hm d1
      refine call_list_dN hc pins s σ H _ us Q I rv ⟨a, ys, rfl, by rw [a2, hp, hw], fun p hp => ?_⟩
      obtain ⟨r2, e2, h2⟩ := r.newL hp a5
      exact hq _ _ e2 r2 _ (.loc h2)
    · exact sc_listF hc pins s σ H xs us Q I rv ⟨ρ, M, _, r, dv, z, M', hf, hq⟩
  · exact sc_listF hc pins s σ H xs us Q I rv ⟨ρ, M, _, r, dv, z, M', hf, hq⟩
end
/-! ## d[k] op= e, d such a dict with numbers -/
def fAugN (op : Int → Int → Int) (fo fi fe : FE) : FS := fun env M => bnd (fo env M) fun o M1 => bnd (fi env M1) fun i M2 => match o with
  | .loc n => match M2[n]? with
    | some (.dcn kvs) => match keyN i with
      | some k => match valN kvs k with
        | some (.int x) => bnd (fe env M2) fun y M4 => match y with
          | .int y => match setN n i (.int (op x y)) M4 with
            | some M5 => some (.nx env, M5)
            | none => none
          | _ => none
        | _ => none
      | none => none
    | _ => none
  | _ => none
def tGetN (K : Frg) (ct : Ct) : V → V → Hp → VK → Prop := fun x y H Q => ∃ (ρ : List Addr) (M : Mem) (n : Nat) (kvs : List (NestedKey × Dv × Dv)) (k : NestedKey) (dy d : Dv), Rl K ct ρ M H ∧ DV K ρ H (.loc n) x ∧ DV K ρ H dy y ∧ M[n]? = some (.dcn kvs) ∧ keyN dy = some k ∧ valN kvs k = some d ∧ ∀ v, DV K ρ H d v → Q v H
section
variable {X : Cx} {ct : Ct} {o i e : Expr} {fo fi fe : FE} {tpos pos : Pos} {op : Operator}
theorem pget_N (hu : X.A.units + 65 < cLine) (hp : ct.prg = X.prog) (hw : ct.wd = X.w) : PGet X (tGetN X.K ct) := by
  intro pins s σ H x y ov iv Q I rx ry h
  obtain ⟨ρ, M, n, kvs, k, dy, d, r, d1, d2, hm, hk, hv, q⟩ := h
  obtain ⟨a, xs, vs, rfl, a1, a2, a3, a4, a5, a6, a7⟩ := r.dcn hm d1
  cases (show ov = Value.ref a from rx)
  obtain ⟨dd, dl, ds⟩ := dn_of I hp hw a2 a3 a4 a5
  obtain ⟨b, rfl, rfl, ki⟩ := key_is I d2 ry hk
  obtain ⟨p, v, e1, e2, e3⟩ := (val_ofN (k := k) a3 a6 a7).1 d hv
  exact wpAny_getItem_heap (room_n hu) ki dd e1 ⟨v, H, I.tok _, e3, q v e2⟩
theorem ss_augN {f : Int → Int → Int} (hu : X.A.units + 65 < cLine) (ho : SE X ct o fo) (hi : SE X ct i fi) (he : SE X ct e fe) (hop : PIp X op (ipI f)) (hp : ct.prg = X.prog := by rfl) (hw : ct.wd = X.w := by rfl)
    (ha : ∀ ov iv new, augStore i ov iv new = (do holding [new, ov, iv] (setItem ov iv new); release [new, ov, iv] []; pure .next) := by intros; rfl) : SS X ct (.AugAssign (.Subscript o i tpos) op e pos) (fAugN f fo fi fe) :=
  PS.imp (ps_augS ho hi (pget_N hu hp hw) he hop (set_dictN hu) ha) fun D σ H ⟨ρ, M, env, r, hen, fl, M', hf, hq⟩ => by
    obtain ⟨od, M1, h1, hf⟩ := bnd_some hf
    obtain ⟨ki, M2, h2, hf⟩ := bnd_some hf
    refine ⟨ρ, M, env, r, hen, od, M1, h1, fun ρ1 H1 e1 r1 vo dvo => ⟨ρ1, M1, env, r1, hen.mono e1, ki, M2, h2, fun ρ2 H2 e2 r2 vi dvi => ?_⟩⟩
    split at hf
    · rename_i n _
      split at hf
      · rename_i kvs hm
        split at hf
        · rename_i k hk
          split at hf
          · rename_i x hx
            obtain ⟨yd, M4, h4, hf⟩ := bnd_some hf
            split at hf
            · rename_i y
              split at hf
              · rename_i M5 h5
                cases hf
                refine ⟨ρ2, M2, n, kvs, k, ki, .int x, r2, dvo.mono e2, dvi, hm, hk, hx, fun v dv => ?_⟩
                cases dv
                refine ⟨ρ2, M2, env, r2, (hen.mono e1).mono e2, .int y, M4, h4, fun ρ4 H4 e4 r4 v2 dv2 => ?_⟩
                cases dv2
                refine ⟨x, y, rfl, rfl, ?_⟩
                have xx := (e1.trans e2).trans e4
                cases dvo with
                | loc aD =>
                  refine setN_ok hp hw r4 (e4.pre _ _ (e2.pre _ _ aD)) h5 (dvi.mono e4) (.int _) fun H5 r5 x5 => ?_
                  exact hq ρ4 _ (xx.trans x5) r5 σ (hen.mono (xx.trans x5))
              · cases hf
            · cases hf
          · cases hf
        · cases hf
      · cases hf
    · cases hf
end
/-! ## what runs while a dict is locked; the dict stands where env and memory tell -/
def lockEP (p : En → Mem → Option Nat) (f : FE) : FE := fun env M => match p env M with
  | some n => match M[n]? with
    | some (.dcn kvs) => match f env (M.set n (.lckN kvs)) with
      | some (d, M') => some (d, M'.set n (.dcn kvs))
      | none => none
    | _ => none
  | none => none
def lockSP (p : En → Mem → Option Nat) (f : FS) : FS := fun env M => match p env M with
  | some n => match M[n]? with
    | some (.dcn kvs) => match f env (M.set n (.lckN kvs)) with
      | some (d, M') => some (d, M'.set n (.dcn kvs))
      | none => none
    | _ => none
  | none => none
/-- the field of the object that a name holds -/
def locF (k : Nat) (x : Str) : En → Mem → Option Nat := fun env M => match env[k]? with
  | some (some (.loc s)) => match M[s]? with
    | some (.ins _ fs) => match fs.lookup x with
      | some (.loc n) => some n
      | _ => none
    | _ => none
  | _ => none
section
variable {X : Cx} {ct : Ct} {e : Expr} {fe : FE} {st : Stmt} {f : FS}
theorem Rl.dcn' {K : Frg} {ρ : List Addr} {H : Hp} {M : Mem} (r : Rl K ct ρ M H) {n : Nat} {kvs : List (NestedKey × Dv × Dv)} (hm : M[n]? = some (.dcn kvs)) :
    ∃ a xs vs, ρ[n]? = some a ∧ H a = some (NDic ct.prg ct.wd a xs) ∧ kvs.map (·.1) = xs.map (·.1) ∧ (∀ p ∈ kvs, keyN p.2.1 = some p.1) ∧
      DVs K ρ H (kvs.map (·.2.1)) (xs.map fun x => V.ref x.2.1) ∧ DVs K ρ H (kvs.map (·.2.2)) vs ∧ Vals vs (xs.map (·.2.2)) := by
  obtain ⟨a, h1, xs, vs, h2⟩ := r.ok n _ hm
  exact ⟨a, xs, vs, h1, h2⟩
theorem se_lockP {p : En → Mem → Option Nat} (h : SE X ct e fe) : SE X ct e (lockEP p fe) := by
  refine PE.imp (pe_lock h) fun σ H Q ⟨ρ, M, env, r, he, d, M', hf, hq⟩ => ?_
  unfold lockEP at hf
  split at hf
  · rename_i n hn
    split at hf
    · rename_i kvs hm
      split at hf
      · rename_i d' N hlp
        obtain ⟨hf1, hf2⟩ := Prod.mk.inj (Option.some.inj hf)
        subst hf1 hf2
        obtain ⟨a, xs, vs, a1, a2, a3, a4, a5, a6, a7⟩ := r.dcn' hm
        refine ⟨a, _, a2, trivial, fun od => ?_⟩
        have x0 : Ext X.K ρ H ρ (upd H a (.frz od (NDic ct.prg ct.wd a xs))) := Ext.soft (fun _ _ h => h) (soft_of a2 rfl).1 (soft_of a2 rfl).2
        obtain ⟨r1, x1⟩ := r.put (o := .lckN kvs) (o' := .frz od (NDic ct.prg ct.wd a xs)) a1 a2 ⟨od, xs, vs, upd_same, a3, a4, a5.mono x0, a6.mono x0, a7⟩
        refine ⟨ρ, M.set n (.lckN kvs), env, r1, he.mono x1, d', N, hlp, fun ρ2 H2 x2 r2 v dv => ?_⟩
        have lk : H2 a = some (.frz od (NDic ct.prg ct.wd a xs)) := x2.frz _ _ _ upd_same
        exact ⟨lk, hq ρ2 _ (ext_opn a2 rfl x2 lk) (r2.opnN (x2.pre _ _ a1) lk a3 a4 ((a5.mono x1).mono x2) ((a6.mono x1).mono x2) a7) v (dv.opn lk rfl)⟩
      · cases hf
    · cases hf
  · cases hf
theorem ss_lockP {p : En → Mem → Option Nat} (h : SS X ct st f) : SS X ct st (lockSP p f) := by
  refine PS.imp (ps_lock h) fun D σ H ⟨ρ, M, env, r, he, fl, M', hf, hq⟩ => ?_
  unfold lockSP at hf
  split at hf
  · rename_i n hn
    split at hf
    · rename_i kvs hm
      split at hf
      · rename_i fl' N hlp
        obtain ⟨hf1, hf2⟩ := Prod.mk.inj (Option.some.inj hf)
        subst hf1 hf2
        obtain ⟨a, xs, vs, a1, a2, a3, a4, a5, a6, a7⟩ := r.dcn' hm
        refine ⟨a, _, a2, trivial, fun od => ?_⟩
        have x0 : Ext X.K ρ H ρ (upd H a (.frz od (NDic ct.prg ct.wd a xs))) := Ext.soft (fun _ _ h => h) (soft_of a2 rfl).1 (soft_of a2 rfl).2
        obtain ⟨r1, x1⟩ := r.put (o := .lckN kvs) (o' := .frz od (NDic ct.prg ct.wd a xs)) a1 a2 ⟨od, xs, vs, upd_same, a3, a4, a5.mono x0, a6.mono x0, a7⟩
        refine ⟨ρ, M.set n (.lckN kvs), env, r1, he.mono x1, fl', N, hlp, fun ρ2 H2 x2 r2 => ?_⟩
        have lk : H2 a = some (.frz od (NDic ct.prg ct.wd a xs)) := x2.frz _ _ _ upd_same
        have q := hq ρ2 _ (ext_opn a2 rfl x2 lk) (r2.opnN (x2.pre _ _ a1) lk a3 a4 ((a5.mono x1).mono x2) ((a6.mono x1).mono x2) a7)
        cases fl' with
        | nx env2 => exact fun σ2 h2 => ⟨lk, q σ2 (h2.opn lk rfl)⟩
        | rt d => exact fun v h2 => ⟨lk, q v (h2.opn lk rfl)⟩
        | bk env2 => exact fun σ2 h2 => ⟨lk, q σ2 (h2.opn lk rfl)⟩
        | ct env2 => exact fun σ2 h2 => ⟨lk, q σ2 (h2.opn lk rfl)⟩
      · cases hf
    · cases hf
  · cases hf
end
/-! ## the keys of a dict that nothing else uses: it stays locked -/
def iKeysT (P : Program) (w : World) (td : TE) : TI := fun σ H R => td σ H fun x H1 => ∃ d xs, x = .ref d ∧ H1 d = some (NDic P w d xs) ∧ ∀ o, R (Itkn P w d o xs) (upd H1 d (.frz o (NDic P w d xs)))
theorem pi_keysT {X : Cx} {tg e : Expr} {td : TE} {P : Program} {w : World} (he : PE X e td) : PI X tg e (iKeysT P w td) := by
  refine ⟨fun pins s σ H R I h => thn (he.run pins s σ H _ I h) fun u s1 ⟨x, H1, I0, rx, d, xs, ex, hd, q⟩ => ?_⟩
  subst ex
  obtain rfl : u = Value.ref d := rx
  obtain ⟨o, I1⟩ := I0.lock hd trivial
  obtain ⟨hs, hgd, hx, es, ep, hdt, hsz, ent⟩ := frzN I1 upd_same
  refine iter_keys hs hgd hx hdt (pi_one (tk := s1.toks) I1 _ (turn_keysN _ hdt) ⟨_, Heap.get?_push_size _ rfl, rfl, ?_⟩ (q o))
  rw [hsz] <;> rfl
def fKeysT (f : FE) : FI := fun env M => bnd (f env M) fun d M1 => match d with
  | .loc n => match M1[n]? with
    | some (.dcn kvs) => some (⟨kvs.length, stpN kvs⟩, M1.set n (.lckN kvs))
    | _ => none
  | _ => none
section
variable {X : Cx} {ct : Ct} {tg e : Expr} {fe : FE}
theorem si_keysT (h : SE X ct e fe) : SI X ct tg e (fKeysT fe) := by
  refine PI.imp (pi_keysT (P := ct.prg) (w := ct.wd) h) fun σ H R ⟨ρ, M, env, r, he, src, M', hf, hq⟩ => ?_
  obtain ⟨d, M1, h1, hf⟩ := bnd_some hf
  refine ⟨ρ, M, env, r, he, d, M1, h1, fun ρ1 H1 e1 r1 v dv => ?_⟩
  split at hf
  · split at hf
    · rename_i kvs hm
      cases hf
      obtain ⟨a, xs, vs, rfl, a1, a2, a3, a4, a5, a6, a7⟩ := r1.dcn hm dv
      refine ⟨a, xs, rfl, a2, fun od => ?_⟩
      have x0 : Ext X.K ρ1 H1 ρ1 (upd H1 a (.frz od (NDic ct.prg ct.wd a xs))) := Ext.soft (fun _ _ h => h) (soft_of a2 rfl).1 (soft_of a2 rfl).2
      obtain ⟨r2, x2⟩ := r1.put (o := .lckN kvs) (o' := .frz od (NDic ct.prg ct.wd a xs)) a1 a2 ⟨od, xs, vs, upd_same, a3, a4, a5.mono x0, a6.mono x0, a7⟩
      exact hq ρ1 _ (e1.trans x2) r2 _ (feeds_keysN upd_same (a5.mono x2))
    · cases hf
  · cases hf
end
end Zl

/-! text Z33 -/
namespace Zl
open PySem L2 PySem.Spec PyProof.Rows
/-! ## max(ints, default=d) -/
section
variable {prog : Program} {w : World} {A : Around} {R : Result → Shared → Prop} {I : Addr} {fp wr : List Addr} {n : Nat} {P : Nat → Value → Prop} {St : Nat → Heap → Prop}
theorem maxDName : (toString "max" ++ toString ".loop" : String) = "max.loop" := by decide
def mdArgs (I S : Addr) (d : Value) : Args := ⟨[.ref I, .none, .ref S], [(Str.ofString "default", d)]⟩
/-- the best so far stands twice in the list S -/
theorem maxD_run (W : Walks prog w A.in1 I fp wr n P St) (bt : Nat → Nat → Bool) (hcmp : CmpOf prog w A.in1 .Gt P bt) (S : Addr) (d : Value) (nS : S ∉ fp) : ∀ (left j : Nat) (s : Shared) (x : Value) (c : Nat), n - (j + 1) = left → j + 1 ≤ n → St (j + 1) s.heap → P (argBest bt j) x →
    s.heap.get? S = some { cls := .type "list", dict := none, data := .seq #[x, x] c, slots := #[] } →
    (∀ v g tk, P (argBest bt (n - 1)) v → (∀ b o, b ∉ wr → b ≠ S → s.heap.get? b = some o → g.get? b = some o) → R (.ok (.ret v)) { s with heap := g, toks := tk }) → codeAny (model prog w) A (.builtin "max.loop" (mdArgs I S d)) R s := by
  have nW : S ∉ wr := fun z => nS (W.sub _ z)
  intro left
  induction left with
  | zero =>
    intro j s x c e0 hj st px hS fin
    have all : j + 1 = n := by omega
    refine codeAny_builtin F.entry_max_loop ?_
    rw [Around.under_plainId F.plain_max_loop _]
    refine (show wpAny _ A.in1 (seqItems? (.ref S) >>= _) _ _ s from wpAny_bind (wpAny_seqItems hS rfl ?_))
    refine (show wpAny _ A.in1 (tryCatch (pyNext (.ref I)) _ >>= _) _ _ s from wpAny_bind (wpAny_tryCatch (W.done s _ _ (all ▸ st) fun g tk kp => ?_)))
    refine (show wpAny _ A.in1 (updateSeq S (fun _ => #[]) >>= _) _ _ _ from wpAny_bind (wpAny_updateSeq (kp S _ nW hS) rfl (wpAny_bind (wpAny_letGo (wpAny_pure ?_)))))
    exact fin x _ tk (by rw [← all]; exact px) fun b o bw bS e => (Heap.get?_update_other _ _ (Ne.symm bS)).trans (kp b o bw e)
  | succ left ih =>
    intro j s x c e0 hj st px hS fin
    refine codeAny_builtin F.entry_max_loop ?_
    rw [Around.under_plainId F.plain_max_loop _]
    refine (show wpAny _ A.in1 (seqItems? (.ref S) >>= _) _ _ s from wpAny_bind (wpAny_seqItems hS rfl ?_))
    refine (show wpAny _ A.in1 (tryCatch (pyNext (.ref I)) _ >>= _) _ _ s from wpAny_bind (wpAny_tryCatch (W.item (j + 1) s _ _ (by omega) st fun v g tk pv st' kp => ?_)))
    have hS' := kp S _ nW hS
    refine (show wpAny _ A.in1 (tryCatch (holding [v, v] (richCompare .Gt v x >>= _)) _ >>= _) _ _ _ from wpAny_bind (wpAny_tryCatch (wpAny_holding (wpAny_bind (hcmp (j + 1) (argBest bt j) v x _ _ _ pv px ?_)))))
    refine wpAny_bind (wpAny_holding (wpAny_truthy_bool (wpAny_bind (wpAny_letGo (wpAny_pure ?_)))))
    cases hb : bt (j + 1) (argBest bt j) with
    | true =>
      simp only [if_true]
      refine wpAny_bind (wpAny_updateSeq hS' rfl (wpAny_bind (wpAny_letGo ?_)))
      rw [maxDName]
      refine wpAny_pure ⟨plainId_quiet F.plain_max_loop _, ih (j + 1) _ v _ (by omega) (by omega) (W.frame _ _ _ st' fun b bf o e => ?_) (by unfold argBest; rw [hb]; exact pv) (Heap.get?_update_self _ hS' rfl) fun u g2 tk2 pu kp2 => fin u g2 tk2 pu fun b o bw bS e => kp2 b o bw bS ((Heap.get?_update_other _ _ (Ne.symm bS)).trans (kp b o bw e))⟩
      exact (Heap.get?_update_other _ _ (fun z : S = b => nS (by rw [z]; exact bf))).trans e
    | false =>
      simp only [Bool.false_eq_true, if_false]
      refine wpAny_bind (wpAny_letGo ?_)
      rw [maxDName]
      exact wpAny_pure ⟨plainId_quiet F.plain_max_loop _, ih (j + 1) _ x c (by omega) (by omega) st' (by unfold argBest; rw [hb]; exact px) hS' fun u g2 tk2 pu kp2 => fin u g2 tk2 pu fun b o bw bS e => kp2 b o bw bS (kp b o bw e)⟩
/-- the first turn -/
theorem maxD_go (W : Walks prog w A.in1 I fp wr n P St) (bt : Nat → Nat → Bool) (hcmp : CmpOf prog w A.in1 .Gt P bt) (S : Addr) (d : Value) (nS : S ∉ fp) {s : Shared} {c : Nat} (st : St 0 s.heap) (hS : s.heap.get? S = some { cls := .type "list", dict := none, data := .seq #[] c, slots := #[] })
    (h0 : n = 0 → ∀ g tk, (∀ b o, b ∉ wr → s.heap.get? b = some o → g.get? b = some o) → R (.ok (.ret d)) { s with heap := g, toks := tk })
    (fin : 0 < n → ∀ v g tk, P (argBest bt (n - 1)) v → (∀ b o, b ∉ wr → b ≠ S → s.heap.get? b = some o → g.get? b = some o) → R (.ok (.ret v)) { s with heap := g, toks := tk }) : codeAny (model prog w) A (.builtin "max.loop" (mdArgs I S d)) R s := by
  have nW : S ∉ wr := fun z => nS (W.sub _ z)
  refine codeAny_builtin F.entry_max_loop ?_
  rw [Around.under_plainId F.plain_max_loop _]
  refine (show wpAny _ A.in1 (seqItems? (.ref S) >>= _) _ _ s from wpAny_bind (wpAny_seqItems hS rfl ?_))
  by_cases e : n = 0
  · refine (show wpAny _ A.in1 (tryCatch (pyNext (.ref I)) _ >>= _) _ _ s from wpAny_bind (wpAny_tryCatch (W.done s _ _ (e ▸ st) fun g tk kp => ?_)))
    exact wpAny_bind (wpAny_rule (wpAny_pure (h0 e g tk kp)))
  · refine (show wpAny _ A.in1 (tryCatch (pyNext (.ref I)) _ >>= _) _ _ s from wpAny_bind (wpAny_tryCatch (W.item 0 s _ _ (by omega) st fun v g tk pv st' kp => ?_)))
    have hS' := kp S _ nW hS
    refine (show wpAny _ A.in1 (updateSeq S (fun _ => #[v, v]) >>= _) _ _ _ from wpAny_bind (wpAny_updateSeq hS' rfl ?_))
    rw [maxDName]
    refine wpAny_pure ⟨plainId_quiet F.plain_max_loop _, maxD_run W bt hcmp S d nS _ 0 _ v _ rfl (by omega) (W.frame _ _ _ st' fun b bf o e => ?_) pv (Heap.get?_update_self _ hS' rfl) fun u g2 tk2 pu kp2 => fin (by omega) u g2 tk2 pu fun b o bw bS e => kp2 b o bw bS ((Heap.get?_update_other _ _ (Ne.symm bS)).trans (kp b o bw e))⟩
    exact (Heap.get?_update_other _ _ (fun z : S = b => nS (by rw [z]; exact bf))).trans e
end
section
variable {prog : Program} {w : World} {A : Around} {E : Value → Shared → Prop} {s : Shared}
theorem argsD (a d : Value) : argsOk "max" ⟨[a], [(Str.ofString "default", d)]⟩ := by unfold argsOk; kernel_rfl
theorem max_ints {l : Addr} {its : List Value} {ns : List Int} {d : Value} {Q : Value → Shared → Prop} (hh : A.handled = none) (hl : s.heap.IsList l its.toArray) (hi : IntsAre its ns)
    (h0 : ns = [] → ∀ g tk, (∀ b o, s.heap.get? b = some o → g.get? b = some o) → Q d { s with heap := g, toks := tk })
    (h : ∀ g tk m t', (∀ b o, s.heap.get? b = some o → g.get? b = some o) → m ∈ ns → (∀ a, a ∈ ns → a ≤ m) → Q (.int m t') { s with heap := g, toks := tk }) : wpAny (model prog w) A (call (.builtin "max") [.ref l] [(Str.ofString "default", d)]) Q E s := by
  obtain ⟨xs, e⟩ := hi.allInts.items
  have hn : numsOf (intItems xs).toList = ns := by rw [← e]; exact hi.numsOf
  rw [nums_intItems] at hn
  subst hn
  rw [e] at hl
  have len : (intItems xs).size = xs.size := by simp [intItems]
  refine wpAny_call (codeAny_call_builtin F.plain_max F.entry_max ?_)
  have chk : checkBuiltinCall "max" ⟨[.ref l], [(Str.ofString "default", d)]⟩ = pure () := by
    have z := argsD (.ref l) d
    simp only [checkBuiltinCall, F.kind_max]
    cases hsig : Manifest.signature? "max" with
    | none => rfl
    | some sig =>
      simp only [argsOk, hsig] at z
      exact z
  rw [chk]
  refine wpAny_pure ?_
  refine (show wpAny _ A.in1 (Builtin.Builtins.bindParams "max" ["key", "default"] 0 ⟨[], [(Str.ofString "default", d)]⟩ >>= _) _ _ s from wpAny_bind (wpAny_of_eq (show Builtin.Builtins.bindParams "max" ["key", "default"] 0 ⟨[], [(Str.ofString "default", d)]⟩ = pure [none, some d] from by kernel_rfl) ?_))
  refine wpAny_bind (wpAny_pure ?_)
  refine wpAny_bind (iter_intList hl fun s2 e2 st hfp hlI => ?_)
  subst e2
  refine wpAny_bind (wpAny_newObj_type ?_)
  have nS : (s.heap.push { cls := .type "list_iterator", data := .fields #[.ref l, .int 0 0] }).objs.size ∉ [s.heap.objs.size, l] := fun z => Nat.lt_irrefl _ (hfp _ z)
  rw [maxDName]
  have W := Walks.list (prog := prog) (w := w) (A := A.in1) hh s.heap.objs.size l hlI (intItems xs)
  have kp0 : ∀ {g : Heap}, (∀ b o, b ∉ [s.heap.objs.size] → b ≠ (s.heap.push { cls := .type "list_iterator", data := .fields #[.ref l, .int 0 0] }).objs.size → ((s.heap.push { cls := .type "list_iterator", data := .fields #[.ref l, .int 0 0] }).push { cls := .type "list", data := .seq #[] }).get? b = some o → g.get? b = some o) → ∀ b o, s.heap.get? b = some o → g.get? b = some o := fun {g} kp b o eb => by
    have lt := Heap.lt_size eb
    refine kp b o (by simpa using Nat.ne_of_lt lt) (by rw [Heap.size_push]; exact Nat.ne_of_lt (Nat.lt_succ_of_lt lt)) (Heap.get?_push_of_some _ (Heap.get?_push_of_some _ eb))
  refine wpAny_pure ⟨plainId_quiet F.plain_max_loop _, maxD_go W (fun i j => decide (numAt xs i > numAt xs j)) (CmpOf.ints_gt (numAt xs) (fun _ _ => intItems_at)) _ d nS (W.frame _ _ _ st fun b _ o e => Heap.get?_push_of_some _ e) (Heap.get?_push_size _ rfl) (fun z g tk kp => ?_) fun z v g tk hP kp => ?_⟩
  · refine h0 ?_ g tk (kp0 fun b o bw _ e => kp b o bw e)
    have : xs.size = 0 := by rw [← len]; exact z
    have : xs = #[] := Array.size_eq_zero_iff.mp this
    subst this; rfl
  · obtain ⟨t, rfl⟩ := intItems_at hP
    obtain ⟨h1, h2⟩ := argBest_gt (numAt xs) (xs.size - 1)
    rw [len] at z ⊢
    refine h g tk _ t (kp0 kp) ?_ fun a ha => ?_
    · rw [numAt_eq]; exact PySem.getD_mem (by rw [List.length_map, Array.length_toList]; omega)
    · obtain ⟨j, hj, rfl⟩ := mem_getD ha
      rw [List.length_map, Array.length_toList] at hj
      rw [← numAt_eq]; exact h2 j (by omega)
end
section
variable {X : Cx} {ct : Ct}
def rMaxDf (K : PySem.W.Frag) : List V → List V → Hp → VK → Prop := fun vs zs H Q => ∃ (a : Addr) (ns : List Int) (k : Int), vs = [V.ref a] ∧ zs = [V.int k] ∧ SqL K H a (ns.map V.int) ∧ (ns = [] → Q (.int k) H) ∧ ∀ m, m ∈ ns → (∀ y, y ∈ ns → y ≤ m) → Q (.int m) H
theorem cr_maxDf (hc : X.calm = true) : CallRK X (.builtin "max") [Str.ofString "default"] (rMaxDf X.K) := by
  intro pins s σ H vs zs us ws Q I r rz h
  obtain ⟨a, ns, k, rfl, rfl, hs, q0, q⟩ := h
  obtain ⟨its, rv, hl, _⟩ := I.list hs
  obtain rfl := Vals.ref1 r
  obtain ⟨w1, rfl, t, e1⟩ := vals1 rz
  subst e1
  exact max_ints (I.ok.hd hc) hl.isList rv.ints (fun e g tk kp => ⟨.int k, H, I.kept kp, ⟨_, rfl⟩, q0 e⟩) fun g tk m t' kp h1 h2 => ⟨.int _, H, I.kept kp, ⟨_, rfl⟩, q m h1 h2⟩
def maxOfI : List Int → Int → Int
  | [], k => k
  | x :: xs, _ => xs.foldl max x
theorem foldl_maxI : ∀ (xs : List Int) (x : Int), x ≤ xs.foldl max x ∧ (∀ y ∈ xs, y ≤ xs.foldl max x) ∧ (xs.foldl max x = x ∨ xs.foldl max x ∈ xs)
  | [], x => ⟨Int.le_refl _, fun y h => (by cases h), .inl rfl⟩
  | y :: ys, x => by
    obtain ⟨h1, h2, h3⟩ := foldl_maxI ys (max x y)
    have a1 : x ≤ max x y := by omega
    have a2 : y ≤ max x y := by omega
    refine ⟨Int.le_trans a1 h1, fun z hz => ?_, ?_⟩
    · rcases List.mem_cons.mp hz with rfl | hz
      · exact Int.le_trans a2 h1
      · exact h2 z hz
    · rw [List.foldl_cons]
      rcases h3 with h3 | h3
      · rw [h3]
        rcases Int.le_total x y with q | q
        · exact .inr (by rw [show max x y = y by omega]; exact List.mem_cons_self ..)
        · exact .inl (by omega)
      · exact .inr (List.mem_cons_of_mem _ h3)
/-- max(xs, default=k) of a list of ints -/
def fMaxDf (k : Int) (f : FE) : FE := fun env M => bnd (f env M) fun d M1 => match d with
  | .loc n => match M1[n]? with
    | some (.lst xs) => match intsD xs with
      | some is => some (.int (maxOfI is k), M1)
      | none => none
    | _ => none
  | _ => none
theorem se_maxDf {e : Expr} {fa : FE} {k : Int} {ke : Expr} {p kpos pos : Pos} (hc : X.calm = true) (hg : Gl X "max") (hm : X.mg "max" = none) (ha : SE X ct e fa) (hk : SE X ct ke (fK (.int k)))
    (hst : starEach [e] X.env = (false, eval e X.env) :: starEach [] X.env := by rfl) (he : backTo pos (starEach [e] X.env) = (false, eval e X.env) :: backTo pos (starEach [] X.env) := by rfl) (hpl : (backTo pos (starEach [e] X.env)).any (·.1) = false := by rfl)
    (hall : (backToKw pos (keywordEach [⟨some (Str.ofString "default"), ke, kpos⟩] X.env)).all (·.1.isSome) = true := by rfl) (hnone : (backToKw pos (keywordEach [⟨some (Str.ofString "default"), ke, kpos⟩] X.env)).any (·.1.isNone) = false := by rfl) (hks : (backToKw pos (keywordEach [⟨some (Str.ofString "default"), ke, kpos⟩] X.env)).filterMap (·.1) = [Str.ofString "default"] := by rfl) :
    SE X ct (.Call (.Name "max" p) [e] [⟨some (Str.ofString "default"), ke, kpos⟩] pos) (fMaxDf k fa) :=
  PE.imp (pe_callBK (cr_maxDf hc) hg hm (by decide +kernel) (pa_cons ha pa_nil hst) (pk_cons hk pk_nil) (he := he) (hpl := hpl) (hall := hall) (hnone := hnone) (hks := hks)) fun σ H Q ⟨ρ, M, env, r, hen, d, M', hf, hq⟩ => by
    obtain ⟨x, M1, h1, hf⟩ := bnd_some hf
    refine ⟨ρ, M, env, r, hen, x, M1, h1, fun ρ1 H1 e1 r1 v dv => ?_⟩
    split at hf
    · split at hf
      · rename_i xs hm
        split at hf
        · rename_i is hi
          cases hf
          obtain ⟨l, vs, rfl, a1, hH, a3⟩ := r1.lst hm dv
          have hv := ints_of a3 hi
          subst hv
          refine ⟨ρ1, _, env, r1, hen.mono e1, .int k, _, rfl, fun ρ2 H2 e2 r2 v2 dv2 => ?_⟩
          cases dv2
          obtain ⟨l2, vs2, e5, b1, hH2, b3⟩ := r2.lst hm (dv.mono e2)
          cases e5
          have hv2 := ints_of b3 hi
          subst hv2
          refine ⟨l, is, k, rfl, rfl, SqL.of hH2, fun e => ?_, fun m hm1 hm2 => ?_⟩
          · subst e
            exact hq ρ2 H2 (e1.trans e2) r2 _ (.int _)
          · have em : m = maxOfI is k := by
              cases is with
              | nil => cases hm1
              | cons x xs =>
                obtain ⟨h1, h2, h3⟩ := foldl_maxI xs x
                have q1 : m ≤ xs.foldl max x := by
                  rcases List.mem_cons.mp hm1 with rfl | z
                  · exact h1
                  · exact h2 m z
                have q2 : xs.foldl max x ≤ m := by
                  refine hm2 _ ?_
                  rcases h3 with h3 | h3
                  · rw [h3]; exact List.mem_cons_self ..
                  · exact List.mem_cons_of_mem _ h3
                exact Int.le_antisymm q1 q2
            subst em
            exact hq ρ2 H2 (e1.trans e2) r2 _ (.int _)
        · cases hf
      · cases hf
    · cases hf
end
end Zl

/-! text Z34 -/
namespace Zl
open PySem L2 PySem.Spec PyProof.Rows
/-! ## d[k] of a locked dict with nested keys -/
def ixF (x y : Dv) (M : Mem) : Rz := match x with
  | .loc n => match M[n]? with
    | some (.lckN kvs) => match keyN y with
      | some k => match valN kvs k with
        | some d => some (d, M)
        | none => none
      | none => none
    | _ => ixE x y M
  | _ => ixE x y M
section
variable {X : Cx} {ct : Ct} {pos : Pos}
theorem sx_F (hu : X.A.units + 65 < cLine) (hp : ct.prg = X.prog) (hw : ct.wd = X.w) : IxR X (tO X.K ct ixF) := by
  intro value slice pins s σ H x y v u Q I rx ry h hsub
  obtain ⟨ρ, M, d, e, r, dx, dy, z, M', hf, hq⟩ := h
  have old : ixE d e M = some (z, M') → wpAny (model X.prog X.w) X.A (subscriptTail value slice v u) (EP X pins σ Q) X.xe s := fun hf => sx_E hu hp hw value slice pins s σ H x y v u Q I rx ry ⟨ρ, M, d, e, r, dx, dy, z, M', hf, hq⟩ hsub
  unfold ixF at hf
  split at hf
  · split at hf
    · rename_i n kvs hm
      split at hf
      · rename_i k hk
        split at hf
        · rename_i d' hd
          cases hf
          obtain ⟨a, h1, od, xs, vs, a2, a3, a4, a5, a6, a7⟩ := r.ok _ _ hm
          cases dx with
          | loc hv =>
            rw [hv] at h1; cases h1
            cases (show v = Value.ref a from rx)
            obtain ⟨b, rfl, rfl, ki⟩ := key_is I dy ry hk
            rw [hp, hw] at a2
            obtain ⟨q1, z⟩ := I.hok a _ a2
            obtain ⟨o', es, ep, g1, g2, g3, g4, g5, g6, g7⟩ := z.1
            have dd : s.heap.DictOfH (nestedKind X.prog X.w) a xs := ⟨o', es, ep, g1, g2, g3, g4, keys_are I a3 a4 a5, g5⟩
            obtain ⟨p, w, e2, dw, rw'⟩ := (val_ofN (k := k) a3 a6 a7).1 _ hd
            exact tail_any dd.typeIs PySem.F.slot_dict_getitem.lookup (wpAny_getItem_heap (room_n hu) ki dd e2 ⟨w, H, I.tok _, rw', hq ρ H .refl r _ dw⟩) hsub
        · cases hf
      · cases hf
    · exact old hf
  · exact old hf
theorem se_ixF {a b : Expr} {fa fb : FE} (hu : X.A.units + 65 < cLine) (ha : SE X ct a fa) (hb : SE X ct b fb) (hs : PlainIx b := by intro _ _; rfl) (hp : ct.prg = X.prog := by rfl) (hw : ct.wd = X.w := by rfl) : SE X ct (.Subscript a b pos) (fO ixF fa fb) :=
  PE.imp (pe_ix (sx_F hu hp hw) ha hb hs) fun _ _ _ w => op_imp w
end
/-! ## is True of None -/
def isG (neg : Bool) : Dv → Dv → Mem → Rz
  | .non, .bl _, M => some (.bl neg, M)
  | d, e, M => isE neg d e M
section
variable {X : Cx} {ct : Ct}
theorem so_isG : SO X ct (compareOp .Is) (isG false) := by
  intro pins s σ H x y v u Q I rx ry h
  obtain ⟨ρ, M, d, e, r, dx, dy, z, M', hf, hq⟩ := h
  unfold isG at hf
  split at hf
  · cases hf; cases dx; cases dy
    cases (show v = Value.none from rx)
    cases (show u = Value.bool _ from ry)
    exact wpAny_is_other rfl (fun z => by cases z) ⟨.bl false, H, I, rfl, hq ρ H .refl r _ (.bl _)⟩
  · exact so_isE pins s σ H x y v u Q I rx ry ⟨ρ, M, _, _, r, dx, dy, z, M', hf, hq⟩
end
end Zl

/-! text Y1 -/
namespace Zl
open PySem L2 PySem.Spec PyProof.Rows

/-! ## running the mirrors -/
/-- the run ends, and so -/
def Wp {α : Type} (r : Option (α × Mem)) (Q : α → Mem → Prop) : Prop := ∃ a M, r = some (a, M) ∧ Q a M
section
variable {α β : Type} {r : Option (α × Mem)} {Q : α → Mem → Prop} {a : α} {M M' : Mem}
theorem wp_ev (h : r = some (a, M')) (q : Q a M') : Wp r Q := ⟨a, M', h, q⟩
theorem wp_ok (q : Q a M) : Wp (some (a, M)) Q := ⟨a, M, rfl, q⟩
theorem Wp.go {P : α → Mem → Prop} (h : Wp r P) (k : ∀ a M, P a M → Q a M) : Wp r Q := by
  obtain ⟨a, M, e, p⟩ := h
  exact ⟨a, M, e, k a M p⟩
theorem wp_bnd {k : α → Mem → Option (β × Mem)} {Q : β → Mem → Prop} (h : Wp r fun a M => Wp (k a M) Q) : Wp (bnd r k) Q := by
  obtain ⟨a, M, rfl, b, M2, e, q⟩ := h
  exact ⟨b, M2, e, q⟩
end
abbrev QE := Dv → Mem → Prop
abbrev QS := Fl → Mem → Prop
def kSeq (g : FS) (Q : QS) : QS := fun fl M => match fl with
  | .nx e => Wp (g e M) Q
  | .rt d => Q (.rt d) M
  | .bk e => Q (.bk e) M
  | .ct e => Q (.ct e) M
def kFn (Q : QE) : QS := fun fl M => match fl with
  | .nx _ => Q .non M
  | .rt d => Q d M
  | _ => False
def kLen (n : Nat) (Q : List Dv → Mem → Prop) : List Dv → Mem → Prop := fun ds M => ds.length = n ∧ Q ds M
theorem k_len {n : Nat} {Q : List Dv → Mem → Prop} {ds : List Dv} {M : Mem} (h : ds.length = n) (k : Q ds M) : kLen n Q ds M := ⟨h, k⟩
def kLe (Q : List Dv → Mem → Prop) : List Dv → Mem → Prop := fun ds M => ds.length ≤ sizeLine ∧ Q ds M
theorem k_le {Q : List Dv → Mem → Prop} {ds : List Dv} {M : Mem} (h : ds.length.ble sizeLine = true) (k : Q ds M) : kLe Q ds M := ⟨Nat.le_of_ble_eq_true h, k⟩
def kIf {α : Type} (f g : Mem → Option (α × Mem)) (Q : α → Mem → Prop) : Bool → Mem → Prop := fun b M => match b with
  | true => Wp (f M) Q
  | false => Wp (g M) Q
section
variable {env e : En} {M : Mem} {d x : Dv} {f g : FS} {fa fb fc : FE} {ft fu : FT} {fr : FA} {Q : QS} {q : QE} {qt : Bool → Mem → Prop} {qa : List Dv → Mem → Prop} {i j n : Nat} {ds : List Dv}
theorem k_nx (h : Wp (g e M) Q) : kSeq g Q (.nx e) M := h
theorem k_rt (h : Q (.rt d) M) : kSeq g Q (.rt d) M := h
theorem k_bk (h : Q (.bk e) M) : kSeq g Q (.bk e) M := h
theorem k_ct (h : Q (.ct e) M) : kSeq g Q (.ct e) M := h
theorem kf_nx (h : q .non M) : kFn q (.nx e) M := h
theorem kf_rt (h : q d M) : kFn q (.rt d) M := h
theorem ki_t {α : Type} {f g : Mem → Option (α × Mem)} {Q : α → Mem → Prop} (h : Wp (f M) Q) : kIf f g Q true M := h
theorem ki_f {α : Type} {f g : Mem → Option (α × Mem)} {Q : α → Mem → Prop} (h : Wp (g M) Q) : kIf f g Q false M := h
theorem ki_of {α : Type} {f g : Mem → Option (α × Mem)} {Q : α → Mem → Prop} {b c : Bool} (e : b = c) (h : kIf f g Q c M) : kIf f g Q b M := e ▸ h
theorem wp_seq (h : Wp (f env M) (kSeq g Q)) : Wp (fSeq f g env M) Q := by
  refine wp_bnd (h.go fun fl M1 k => ?_)
  cases fl with
  | nx e => exact k
  | rt d => exact wp_ok k
  | bk e => exact wp_ok k
  | ct e => exact wp_ok k
theorem wp_fn {b : FS} {m : FF} (hm : m = callF n b) (env : En) (he : ds.map some ++ List.replicate (n - ds.length) none = env) (h : Wp (b env M) (kFn q)) : Wp (m ds M) q := by
  subst hm; subst he
  obtain ⟨fl, M1, e, k⟩ := h
  show Wp (match b _ M with | some (.rt d, M') => some (d, M') | some (.nx _, M') => some (.non, M') | _ => none) q
  rw [e]
  cases fl with
  | nx e => exact wp_ok k
  | rt d => exact wp_ok k
  | bk e => exact k.elim
  | ct e => exact k.elim
theorem wp_end (h : Q (.nx env) M) : Wp (fEnd env M) Q := wp_ok h
theorem wp_brk (h : Q (.bk env) M) : Wp (fBrk env M) Q := wp_ok h
theorem wp_cnt (h : Q (.ct env) M) : Wp (fCnt env M) Q := wp_ok h
theorem wp_drop (h : Wp (fa env M) fun _ M1 => Q (.nx env) M1) : Wp (fDrop fa env M) Q := wp_bnd (h.go fun _ _ k => wp_ok k)
theorem wp_ret (h : Wp (fa env M) fun d M1 => Q (.rt d) M1) : Wp (fRet fa env M) Q := wp_bnd (h.go fun _ _ k => wp_ok k)
theorem wp_set (h : Wp (fa env M) fun d M1 => Q (.nx (env.set i (some d))) M1) : Wp (fSet i fa env M) Q := wp_bnd (h.go fun _ _ k => wp_ok k)
theorem wp_asg {gg : FG} (h : Wp (fa env M) fun d M1 => Wp (gg d env M1) fun e1 M2 => Q (.nx e1) M2) : Wp (fAsg fa gg env M) Q := wp_bnd (h.go fun _ _ k => wp_bnd (k.go fun _ _ k => wp_ok k))
theorem wp_par {is : List Nat} (h : Wp (fr env M) (kLen is.length fun ds M1 => Q (.nx ((is.zip ds).foldl (fun e p => e.set p.1 (some p.2)) env)) M1)) : Wp (fPar is fr env M) Q :=
  wp_bnd (h.go fun ds M1 k => by
    show Wp (if _ then _ else _) _
    rw [if_pos k.1]
    exact wp_ok k.2)
theorem wp_ifs (h : Wp (ft env M) (kIf (f env) (g env) Q)) : Wp (fIfS ft f g env M) Q := wp_bnd (h.go fun b M1 k => by
  cases b with
  | true => exact k
  | false => exact k)
theorem wp_var (h : env[i]? = some (some d)) (k : q d M) : Wp (fV i env M) q := ⟨d, M, by unfold fV; rw [h], k⟩
theorem wp_k (k : q d M) : Wp (fK d env M) q := wp_ok k
theorem wp_op {h : Dv → Dv → Mem → Option (Dv × Mem)} (k : Wp (fa env M) fun x M1 => Wp (fb env M1) fun y M2 => Wp (h x y M2) q) : Wp (fO h fa fb env M) q := wp_bnd (k.go fun _ _ k => wp_bnd k)
theorem wp_un {h : Dv → Mem → Option (Dv × Mem)} (k : Wp (fa env M) fun x M1 => Wp (h x M1) q) : Wp (fU h fa env M) q := wp_bnd k
def kCh (h : Mem → Option (Dv × Mem)) (q : QE) : QE := fun z M => match z with
  | .bl true => Wp (h M) q
  | .bl false => q (.bl false) M
  | _ => False
theorem kc_t {h : Mem → Option (Dv × Mem)} (k : Wp (h M) q) : kCh h q (.bl true) M := k
theorem kc_f {h : Mem → Option (Dv × Mem)} (k : q (.bl false) M) : kCh h q (.bl false) M := k
theorem kc_of {h : Mem → Option (Dv × Mem)} {b c : Bool} (e : b = c) (k : kCh h q (.bl c) M) : kCh h q (.bl b) M := e ▸ k
theorem wp_chain {h h' : Dv → Dv → Mem → Option (Dv × Mem)} (k : Wp (fa env M) fun x M1 => Wp (fb env M1) fun y M2 => Wp (h x y M2) (kCh (fun M3 => bnd (fc env M3) fun w M4 => h' y w M4) q)) : Wp (fChain h h' fa fb fc env M) q :=
  wp_bnd (k.go fun x M1 k => wp_bnd (k.go fun y M2 k => wp_bnd (k.go fun z M3 k => by
    cases z with
    | bl b => cases b with
      | true => exact k
      | false => exact wp_ok k
    | _ => exact k.elim)))
def kB (Q : Bool → Mem → Prop) : QE := fun d M => match d with
  | .bl b => Q b M
  | _ => False
theorem kb (b : Bool) (h : qt b M) : kB qt (.bl b) M := h
theorem wp_b (h : Wp (fa env M) (kB qt)) : Wp (fB fa env M) qt := wp_bnd (h.go fun d M1 k => by
  cases d with
  | bl b => exact wp_ok k
  | _ => exact k.elim)
theorem wp_trB (h : Wp (fa env M) (kB qt)) : Wp (fTr fa env M) qt := wp_bnd (h.go fun d M1 k => by
  cases d with
  | bl b => exact wp_ok k
  | _ => exact k.elim)
theorem wp_not (h : Wp (ft env M) fun b M1 => qt (!b) M1) : Wp (fNotT ft env M) qt := wp_bnd (h.go fun _ _ k => wp_ok k)
theorem wp_andT (h : Wp (ft env M) (kIf (fu env) (fun M1 => some (false, M1)) qt)) : Wp (fAndT ft fu env M) qt := wp_bnd (h.go fun b M1 k => by
  cases b with
  | true => exact k
  | false => exact k)
theorem wp_orT (h : Wp (ft env M) (kIf (fun M1 => some (true, M1)) (fu env) qt)) : Wp (fOrT ft fu env M) qt := wp_bnd (h.go fun b M1 k => by
  cases b with
  | true => exact k
  | false => exact k)
theorem wp_andV (h : Wp (fa env M) (kCh (fb env) q)) : Wp (fAndV fa fb env M) q := wp_bnd (h.go fun z M1 k => by
  cases z with
  | bl b => cases b with
    | true => exact k
    | false => exact wp_ok k
  | _ => exact k.elim)
theorem wp_notV (h : Wp (fa env M) (kB fun b M1 => q (.bl !b) M1)) : Wp (fNotV fa env M) q := wp_bnd (h.go fun d M1 k => by
  cases d with
  | bl b => exact wp_ok k
  | _ => exact k.elim)
theorem wp_if (h : Wp (ft env M) (kIf (fa env) (fb env) q)) : Wp (fIf ft fa fb env M) q := wp_bnd (h.go fun b M1 k => by
  cases b with
  | true => exact k
  | false => exact k)
theorem wp_nil (h : qa [] M) : Wp (fNil env M) qa := wp_ok h
theorem wp_cons (h : Wp (fa env M) fun d M1 => Wp (fr env M1) fun ds M2 => qa (d :: ds) M2) : Wp (fCons fa fr env M) qa := wp_bnd (h.go fun _ _ k => wp_bnd (k.go fun _ _ k => wp_ok k))
theorem wp_tup (h : Wp (fr env M) (kLe fun ds M1 => q (.tup ds) M1)) : Wp (fTup fr env M) q := wp_bnd (h.go fun ds M1 k => by
  show Wp (if _ then _ else _) _
  rw [if_pos k.1]; exact wp_ok k.2)
theorem wp_lst (h : Wp (fr env M) (kLe fun ds M1 => q (.loc M1.length) (M1 ++ [.lst ds]))) : Wp (fLst fr env M) q := wp_bnd (h.go fun ds M1 k => by
  show Wp (if _ then _ else _) _
  rw [if_pos k.1]; exact wp_ok k.2)
theorem wp_c {h : List Dv → Mem → Option (Dv × Mem)} (k : Wp (fr env M) fun ds M1 => Wp (h ds M1) q) : Wp (fC h fr env M) q := wp_bnd k
theorem wp_call {F : FF} (h : Wp (fr env M) (kLen n fun ds M1 => Wp (F ds M1) q)) : Wp (fCall n F fr env M) q := wp_bnd (h.go fun ds M1 k => by
  show Wp (if _ then _ else _) _
  rw [if_pos k.1]; exact k.2)
theorem wp_callK {F : FF} {nk : Nat} {is : List Nat} (h : Wp (fr env M) fun ds M1 => (ds.length = nk ∧ (pick is ds).length = n) ∧ Wp (F (pick is ds) M1) q) : Wp (fCallK n nk is F fr env M) q := wp_bnd (h.go fun ds M1 k => by
  show Wp (if _ then _ else _) _
  rw [if_pos k.1]; exact k.2)
theorem wp_fld {c : Nat} {fld : Str} (h : Wp (fa env M) fun d M1 => ∃ k fs x, d = .loc k ∧ M1[k]? = some (.ins c fs) ∧ fs.lookup fld = some x ∧ q x M1) : Wp (fFld c fld fa env M) q := wp_bnd (h.go fun d M1 ⟨k, fs, x, e, h1, h2, h3⟩ => by
  subst e
  show Wp (match M1[k]? with | some (.ins c' fs) => if c' = c then match fs.lookup fld with | some x => some (x, M1) | none => none else none | _ => none) _
  simp only [h1, if_true, h2]
  exact wp_ok h3)
theorem wp_put {c : Nat} {fld : Str} (h : Wp (fa env M) fun y M1 => Wp (fb env M1) fun d M2 => ∃ k fs, d = .loc k ∧ M2[k]? = some (.ins c fs) ∧ fs.length < 1000 ∧ Q (.nx env) (M2.set k (.ins c (putD fld y fs)))) : Wp (fPut c fld fb fa env M) Q :=
  wp_bnd (h.go fun y M1 k => wp_bnd (k.go fun d M2 ⟨k, fs, e, h1, h2, h3⟩ => by
    subst e
    show Wp (match M2[k]? with | some (.ins c' fs) => if c' = c ∧ fs.length < 1000 then some (Fl.nx env, M2.set k (.ins c (putD fld y fs))) else none | _ => none) _
    simp only [h1, h2, and_self, if_true]
    exact wp_ok h3))
theorem wp_meth {c np : Nat} {m : Str} {F : FF} (h : Wp (fa env M) fun d M1 => isIns c m d M1 = true ∧ Wp (fr env M1) fun ds M2 => (d :: ds).length = np ∧ Wp (F (d :: ds) M2) q) : Wp (fMeth c m np F fa fr env M) q := wp_bnd (h.go fun d M1 k => by
  show Wp (if _ then _ else _) _
  rw [if_pos k.1]
  refine wp_bnd (k.2.go fun ds M2 k => ?_)
  show Wp (if _ then _ else _) _
  rw [if_pos k.1]
  exact k.2)
theorem wp_make {c np : Nat} {F : FF} (h : Wp (fr env M) fun ds M1 => ds.length + 1 = np ∧ Wp (F (.loc M1.length :: ds) (M1 ++ [.ins c []])) fun d M2 => d = .non ∧ q (.loc M1.length) M2) : Wp (fMake c np F fr env M) q := wp_bnd (h.go fun ds M1 k => by
  show Wp (if _ then _ else _) _
  rw [if_pos k.1]
  refine wp_bnd (k.2.go fun d M2 ⟨e, k⟩ => ?_)
  subst e
  exact wp_ok k)
theorem wp_m {T : String} {h : FM} (k : Wp (fa env M) fun d M1 => isTy T d M1 = true ∧ Wp (fr env M1) fun ds M2 => Wp (h d ds M2) q) : Wp (fM T h fa fr env M) q := wp_bnd (k.go fun d M1 k => by
  show Wp (if _ then _ else _) _
  rw [if_pos k.1]
  exact wp_bnd k.2)
theorem wp_or1 (h : Wp (fa env M) q) : Wp (fOr fa fb env M) q := by
  obtain ⟨d, M1, e, k⟩ := h
  exact ⟨d, M1, by unfold fOr; rw [e], k⟩
theorem wp_or2 (h1 : fa env M = none) (h : Wp (fb env M) q) : Wp (fOr fa fb env M) q := by
  obtain ⟨d, M1, e, k⟩ := h
  exact ⟨d, M1, by unfold fOr; rw [h1, e], k⟩
theorem wp_slP {flo fhi : FO} (h : Wp (fa env M) fun d M1 => Wp (flo env M1) fun lo M2 => Wp (fhi env M2) fun hi M3 => Wp (slD d lo hi M3) q) : Wp (fSl fa flo fhi env M) q := wp_bnd (h.go fun _ _ k => wp_bnd (k.go fun _ _ k => wp_bnd k))
theorem wp_noP {qo : Option Int → Mem → Prop} (h : qo none M) : Wp (fNoP env M) qo := wp_ok h
theorem wp_P {qo : Option Int → Mem → Prop} (h : Wp (fa env M) fun d M1 => ∃ i, d = .int i ∧ qo (some i) M1) : Wp (fP fa env M) qo := wp_bnd (h.go fun d M1 ⟨i, e, k⟩ => by
  subst e; exact wp_ok k)
end
section
variable {env : En} {M : Mem} {d : Dv} {fo fi : FE} {qe : En → Mem → Prop}
theorem wp_addI {i j : Int} {q : QE} (k : q (.int (i + j)) M) : Wp (addD (.int i) (.int j) M) q := wp_ok k
theorem wp_subI {i j : Int} {q : QE} (k : q (.int (i - j)) M) : Wp (subD (.int i) (.int j) M) q := wp_ok k
theorem wp_cmp {p : Int → Int → Bool} {i j : Int} {q : QE} (k : q (.bl (p i j)) M) : Wp (cmpI p (.int i) (.int j) M) q := wp_ok k
theorem wp_modI {i j : Int} {q : QE} (h : 0 < j) (k : q (.int (i % j)) M) : Wp (modD (.int i) (.int j) M) q := wp_ev (if_pos h) k
theorem wp_fdivI {i j : Int} {q : QE} (h : 0 < j ∧ j < 1073741824) (k : q (.int (i / j)) M) : Wp (fdivD (.int i) (.int j) M) q := wp_ev (if_pos h) k
theorem wp_mulI {i j : Int} {q : QE} (h : (-(2 ^ 64) < i ∧ i < 2 ^ 64) ∨ (-(2 ^ 64) < j ∧ j < 2 ^ 64)) (k : q (.int (i * j)) M) : Wp (mulD (.int i) (.int j) M) q := wp_ev (if_pos h) k
theorem wp_eqI {b : Bool} {i j : Int} {q : QE} (k : q (.bl (xor b (i == j))) M) : Wp (eqD b (.int i) (.int j) M) q := wp_ok k
theorem wp_eqS {b : Bool} {i j : Str} {q : QE} (k : q (.bl (xor b (i == j))) M) : Wp (eqD b (.str i) (.str j) M) q := wp_ok k
theorem wp_isi {ds : List Dv} {x : Dv} {M1 : Mem} {q : QE} (h : isiD ds M = some (x, M1)) (k : q x M1) : Wp (isiD ds M) q := wp_ev h k
theorem wp_len {ds : List Dv} {x : Dv} {M1 : Mem} {q : QE} (h : lenE ds M = some (x, M1)) (k : q x M1) : Wp (lenE ds M) q := wp_ev h k
theorem wp_intd {ds : List Dv} {x : Dv} {M1 : Mem} {q : QE} (h : intD ds M = some (x, M1)) (k : q x M1) : Wp (intD ds M) q := wp_ev h k
theorem wp_ixT {xs : List Dv} {i : Int} {x : Dv} {q : QE} (h : atI xs i = some x) (k : q x M) : Wp (ixE (.tup xs) (.int i) M) q := wp_ev (by unfold ixE ixD; simp only [h]) k
theorem wp_ixR {xs : List Dv} {i : Int} {x : Dv} {q : QE} (h : atI xs i = some x) (k : q x M) : Wp (ixE (.rol xs) (.int i) M) q := wp_ev (by unfold ixE ixD; simp only [h]) k
theorem wp_ixL {n : Nat} {xs : List Dv} {i : Int} {x : Dv} {q : QE} (hm : M[n]? = some (.lst xs)) (h : atI xs i = some x) (k : q x M) : Wp (ixE (.loc n) (.int i) M) q := wp_ev (by unfold ixE ixD; simp only [hm, h]) k
theorem wp_lenL {n : Nat} {xs : List Dv} {q : QE} (hm : M[n]? = some (.lst xs)) (k : q (.int xs.length) M) : Wp (lenE [.loc n] M) q := wp_ev (by unfold lenE lenD itemsD; simp only [hm]) k
theorem wp_tupL {n : Nat} {xs : List Dv} {q : QE} (hm : M[n]? = some (.lst xs)) (k : q (.tup xs) M) : Wp (tupD [.loc n] M) q := wp_ev (by unfold tupD; simp only [hm]) k
theorem wp_append {n : Nat} {xs : List Dv} {x : Dv} {q : QE} (hm : M[n]? = some (.lst xs)) (h : xs.length < sizeLine) (k : q .non (M.set n (.lst (xs ++ [x])))) : Wp (appendD (.loc n) [x] M) q := wp_ev (by unfold appendD; simp only [hm, if_pos h]) k
theorem ty_lst {n : Nat} {xs : List Dv} (hm : M[n]? = some (.lst xs)) : isTy "list" (.loc n) M = true := by unfold isTy; simp only [hm]; rfl
theorem wp_all {n : Nat} {xs : List Dv} {bs : List Bool} {q : QE} (hm : M[n]? = some (.lst xs)) (h : blsD xs = some bs) (k : q (.bl (bs.all id)) M) : Wp (allD [.loc n] M) q := wp_ev (by unfold allD; simp only [hm, h]) k
theorem wp_any {n : Nat} {xs : List Dv} {bs : List Bool} {q : QE} (hm : M[n]? = some (.lst xs)) (h : blsD xs = some bs) (k : q (.bl (bs.any id)) M) : Wp (anyD [.loc n] M) q := wp_ev (by unfold anyD; simp only [hm, h]) k
theorem bls_all : ∀ {xs : List Dv}, (∀ x ∈ xs, x = .bl true) → blsD xs = some (List.replicate xs.length true)
  | [], _ => rfl
  | x :: xs, h => by
    have e := h x (by simp)
    subst e
    unfold blsD
    rw [bls_all fun y hy => h y (by simp [hy])]; rfl
theorem wp_src {qi : Src → Mem → Prop} {fa : FE} (h : Wp (fa env M) fun d M1 => ∃ src, srcOf M1 d = some src ∧ qi src M1) : Wp (fSrc fa env M) qi := wp_bnd (h.go fun d M1 ⟨s, e, k⟩ => by
  show Wp (match srcOf M1 d with | some s => some (s, M1) | none => none) _
  rw [e]; exact wp_ok k)
theorem wp_rng1 {qi : Src → Mem → Prop} {fa : FE} (h : Wp (fa env M) fun d M1 => ∃ j : Int, d = .int j ∧ (-(2 ^ 62) ≤ j ∧ j < 2 ^ 62) ∧ qi (srcR 0 j.toNat) M1) : Wp (fRng1 fa env M) qi := wp_bnd (h.go fun d M1 ⟨j, e, h1, k⟩ => by
  subst e
  show Wp (if _ then _ else _) _
  rw [if_pos h1]; exact wp_ok k)
theorem wp_gN {i : Nat} (h : qe (env.set i (some d)) M) : Wp (gN i d env M) qe := wp_ok h
theorem wp_gsNil (h : qe env M) : Wp (gsNil [] env M) qe := wp_ok h
theorem wp_gsCons {f : FG} {g : FGs} {ds : List Dv} (h : Wp (f d env M) fun e1 M1 => Wp (g ds e1 M1) qe) : Wp (gsCons f g (d :: ds) env M) qe := wp_bnd h
theorem wp_gT {n : Nat} {g h : FGs} {xs : List Dv} (hn : xs.length = n) (k : Wp (g xs env M) qe) : Wp (gOr (gT n g) (gL n h) (.tup xs) env M) qe := by
  obtain ⟨e, M1, e1, k⟩ := k
  exact ⟨e, M1, by unfold gOr gT; simp only [if_pos hn, e1], k⟩
theorem wp_gPr {n : Nat} {g h : FGs} {xs : List Dv} (hn : xs.length = n) (k : Wp (g xs env M) qe) : Wp (gOr (gT n g) (gL n h) (.pr xs) env M) qe := by
  obtain ⟨e, M1, e1, k⟩ := k
  exact ⟨e, M1, by unfold gOr gT; simp only [if_pos hn, e1], k⟩
theorem wp_gL {m n : Nat} {g h : FGs} {xs : List Dv} (hm : M[m]? = some (.lst xs)) (hn : xs.length = n) (k : Wp (h xs env M) qe) : Wp (gOr (gT n g) (gL n h) (.loc m) env M) qe := by
  obtain ⟨e, M1, e1, k⟩ := k
  exact ⟨e, M1, by unfold gOr gT gL; simp only [hm, if_pos hn, e1], k⟩
theorem wp_gS (h : Wp (fo env M) fun o M1 => Wp (fi env M1) fun i M2 => ∃ M3, setE o i d M2 = some M3 ∧ qe env M3) : Wp (gSE fo fi d env M) qe := wp_bnd (h.go fun o M1 k => wp_bnd (k.go fun i M2 ⟨M3, e, k⟩ => by
  show Wp (match setE o i d M2 with | some M3 => some (env, M3) | none => none) _
  rw [e]; exact wp_ok k))
/-- o[j] = v -/
theorem ixN_n {n j : Nat} (hj : j < n) : ixN n (j : Int) = some j := by
  unfold ixN
  rw [if_pos (by omega), if_pos (by omega)]; simp
theorem atI_n {α : Type} {xs : List α} {j : Nat} {x : α} (h : xs[j]? = some x) : atI xs (j : Int) = some x := by
  unfold atI
  rw [ixN_n (List.getElem?_eq_some_iff.mp h).1]; exact h
theorem set_i {n j : Nat} {k : Int} {xs : List Dv} {v : Dv} (hm : M[n]? = some (.lst xs)) (hj : ixN xs.length k = some j) : setE (.loc n) (.int k) v M = some (M.set n (.lst (xs.set j v))) := by
  unfold setE setD
  simp only [hm, hj]
theorem set_at {n j : Nat} {xs : List Dv} {v : Dv} (hm : M[n]? = some (.lst xs)) (hj : j < xs.length) : setE (.loc n) (.int (j : Nat)) v M = some (M.set n (.lst (xs.set j v))) := by
  unfold setE setD
  simp only [hm, ixN_n hj]
end
/-! ### loops -/
def kLoop (I : En → Mem → Prop) (Q : QS) : QS := fun fl M => match fl with
  | .nx e => I e M
  | .ct e => I e M
  | .bk e => Q (.nx e) M
  | .rt d => Q (.rt d) M
section
variable {env : En} {M : Mem} {g : FG} {f : FS} {it : Stp} {Q : QS}
theorem kl_nx {I : En → Mem → Prop} {e : En} (h : I e M) : kLoop I Q (.nx e) M := h
theorem kl_ct {I : En → Mem → Prop} {e : En} (h : I e M) : kLoop I Q (.ct e) M := h
theorem kl_rt {I : En → Mem → Prop} {d : Dv} (h : Q (.rt d) M) : kLoop I Q (.rt d) M := h
theorem kl_bk {I : En → Mem → Prop} {e : En} (h : Q (.nx e) M) : kLoop I Q (.bk e) M := h
theorem wp_loop (I : Nat → En → Mem → Prop) (n : Nat) (hgo : ∀ i env M, i < n → I i env M → ∃ d, it i M = some (some d) ∧ Wp (g d env M) fun e1 M1 => Wp (f e1 M1) (kLoop (I (i + 1)) Q))
    (hend : ∀ env M, I n env M → it n M = some none ∧ Q (.nx env) M) : ∀ (k i : Nat) (env : En) (M : Mem), k + i = n → I i env M → Wp (loopF it g f k i env M) Q
  | 0, i, env, M, e, h => by
    have : i = n := by omega
    subst this
    obtain ⟨h1, h2⟩ := hend env M h
    show Wp (match it i M with | some none => some (Fl.nx env, M) | _ => none) Q
    rw [h1]; exact wp_ok h2
  | k + 1, i, env, M, e, h => by
    obtain ⟨d, h1, h2⟩ := hgo i env M (by omega) h
    unfold loopF
    simp only [h1]
    refine wp_bnd (h2.go fun e1 M1 h2 => wp_bnd (h2.go fun fl M2 h2 => ?_))
    cases fl with
    | nx e => exact wp_loop I n hgo hend k (i + 1) e M2 (by omega) h2
    | ct e => exact wp_loop I n hgo hend k (i + 1) e M2 (by omega) h2
    | bk e => exact wp_ok h2
    | rt d => exact wp_ok h2
theorem wp_for {fi : FI} (I : Nat → En → Mem → Prop) (h : Wp (fi env M) fun src M1 => I 0 env M1 ∧
      (∀ i env M, i < src.many → I i env M → ∃ d, src.stp i M = some (some d) ∧ Wp (g d env M) fun e1 M1 => Wp (f e1 M1) (kLoop (I (i + 1)) Q)) ∧
      ∀ env M, I src.many env M → src.stp src.many M = some none ∧ Q (.nx env) M) : Wp (fFor fi g f env M) Q :=
  wp_bnd (h.go fun src M1 ⟨h0, h1, h2⟩ => wp_loop I src.many h1 h2 src.many 0 env M1 (by omega) h0)
/-- while: I m: at most m turns are left -/
theorem wp_whileI {c : FT} (I : Nat → En → Mem → Prop) (h : ∀ m env M, I m env M → Wp (c env M) fun b M1 => match b with
      | true => Wp (f env M1) (kLoop (fun e M => ∃ m', m' < m ∧ I m' e M) Q)
      | false => Q (.nx env) M1) : ∀ (k m : Nat) (env : En) (M : Mem), m < k → I m env M → Wp (whileF c f k env M) Q
  | 0, m, env, M, e, h => by omega
  | k + 1, m, env, M, e, hi => by
    unfold whileF
    refine wp_bnd ((h m env M hi).go fun b M1 h1 => ?_)
    cases b with
    | false => exact wp_ok h1
    | true =>
      refine wp_bnd (Wp.go h1 fun fl M2 h2 => ?_)
      cases fl with
      | nx e => obtain ⟨m', l, h2⟩ := h2; exact wp_whileI I h k m' e M2 (by omega) h2
      | ct e => obtain ⟨m', l, h2⟩ := h2; exact wp_whileI I h k m' e M2 (by omega) h2
      | bk e => exact wp_ok h2
      | rt d => exact wp_ok h2
/-- comprehensions: I i acc M, the new list's cell aside -/
theorem wp_compI {ft : FT} {fe : FE} {e0 : En} {n : Nat} {q : Mem → Prop} (I : Nat → List Dv → Mem → Prop) (m : Nat) (hI : ∀ i acc M, I i acc M → M[n]? = some (.lst acc))
    (hgo : ∀ i acc M, i < m → I i acc M → ∃ d, it i M = some (some d) ∧ Wp (g d e0 M) fun e1 M1 => Wp (ft e1 M1) fun b M2 => match b with
      | true => Wp (fe e1 M2) fun y M3 => ∃ acc', M3[n]? = some (.lst acc') ∧ acc'.length < sizeLine ∧ I (i + 1) (acc' ++ [y]) (M3.set n (.lst (acc' ++ [y])))
      | false => I (i + 1) acc M2)
    (hend : ∀ acc M, I m acc M → it m M = some none ∧ q M) : ∀ (k i : Nat) (acc : List Dv) (M : Mem), k + i = m → I i acc M → ∃ M', compF it g ft fe e0 n k i M = some M' ∧ q M'
  | 0, i, acc, M, e, h => by
    have : i = m := by omega
    subst this
    obtain ⟨h1, h2⟩ := hend acc M h
    refine ⟨M, ?_, h2⟩
    show (match it i M with | some none => some M | _ => none) = _
    rw [h1]
  | k + 1, i, acc, M, e, h => by
    obtain ⟨d, h1, e1, M1, h2, b, M2, h3, h4⟩ := hgo i acc M (by omega) h
    unfold compF
    simp only [h1, h2]
    cases b with
    | false =>
      simp only [h3]
      exact wp_compI I m hI hgo hend k (i + 1) acc M2 (by omega) h4
    | true =>
      obtain ⟨y, M3, h5, acc', h6, h7, h8⟩ := h4
      simp only [h3, h5, h6, if_pos h7]
      exact wp_compI I m hI hgo hend k (i + 1) _ _ (by omega) h8
end
/-! ### what stays in the memory -/
/-- the cells of M stay, but those of W -/
abbrev Kp (W : Nat → Prop) (M M' : Mem) : Prop := M.length ≤ M'.length ∧ ∀ n, n < M.length → ¬ W n → M'[n]? = M[n]?
abbrev NoW : Nat → Prop := fun _ => False
section
variable {W W' : Nat → Prop} {M M1 M2 : Mem} {n : Nat} {o : Ob}
theorem Kp.refl : Kp W M M := ⟨Nat.le_refl _, fun _ _ _ => rfl⟩
theorem Kp.trans (a : Kp W M M1) (b : Kp W' M1 M2) (h : ∀ n, n < M.length → W' n → W n) : Kp W M M2 :=
  ⟨Nat.le_trans a.1 b.1, fun n hn w => (b.2 n (Nat.lt_of_lt_of_le hn a.1) fun x => w (h n hn x)).trans (a.2 n hn w)⟩
theorem Kp.tr (a : Kp W M M1) (b : Kp W M1 M2) : Kp W M M2 := a.trans b fun _ _ h => h
theorem Kp.trN (a : Kp W M M1) (b : Kp NoW M1 M2) : Kp W M M2 := a.trans b fun _ _ h => h.elim
theorem Kp.app (L : Mem) : Kp W M (M ++ L) := ⟨by simp, fun n hn _ => by rw [List.getElem?_append_left hn]⟩
theorem Kp.set (h : n < M.length → W n) : Kp W M (M.set n o) := ⟨by simp, fun m hm w => by
  rw [List.getElem?_set_ne fun e => ?_]
  subst e; exact w (h hm)⟩
theorem Kp.at (k : Kp W M M1) (h : M[n]? = some o) (w : ¬ W n) : M1[n]? = some o := (k.2 n (List.getElem?_eq_some_iff.mp h).1 w).trans h
theorem lt_of {x : Ob} (h : M[n]? = some x) : n < M.length := (List.getElem?_eq_some_iff.mp h).1
theorem at_new : (M ++ [o])[M.length]? = some o := by simp
theorem at_set {x : Ob} (h : M[n]? = some x) : (M.set n o)[n]? = some o := by
  rw [List.getElem?_set, if_pos rfl, if_pos (lt_of h)]
theorem at_set_ne {m : Nat} {x : Ob} (h : M[m]? = some x) (e : n ≠ m) : (M.set n o)[m]? = some x := by
  rw [List.getElem?_set_ne e]; exact h
theorem at_app {x : Ob} {L : Mem} (h : M[n]? = some x) : (M ++ L)[n]? = some x := by
  rw [List.getElem?_append_left (lt_of h)]; exact h
end
inductive All2 {α β : Type} (R : α → β → Prop) : List α → List β → Prop
  | nil : All2 R [] []
  | cons {x : α} {y : β} {xs : List α} {ys : List β} : R x y → All2 R xs ys → All2 R (x :: xs) (y :: ys)
section
variable {α β : Type} {R : α → β → Prop}
theorem All2.length : ∀ {xs : List α} {ys : List β}, All2 R xs ys → xs.length = ys.length
  | _, _, .nil => rfl
  | _, _, .cons _ t => by rw [List.length_cons, List.length_cons, t.length]
theorem All2.snoc {x : α} {y : β} (h : R x y) : ∀ {xs : List α} {ys : List β}, All2 R xs ys → All2 R (xs ++ [x]) (ys ++ [y])
  | _, _, .nil => .cons h .nil
  | _, _, .cons r t => .cons r (All2.snoc h t)
theorem All2.map_eq {φ : α → β} : ∀ {xs : List α} {ys : List β}, All2 (fun x y => y = φ x) xs ys → ys = xs.map φ
  | _, _, .nil => rfl
  | _, _, .cons r t => by rw [r, All2.map_eq t]; rfl
theorem All2.right {P : β → Prop} (h : ∀ x y, R x y → P y) : ∀ {xs : List α} {ys : List β}, All2 R xs ys → ∀ y ∈ ys, P y
  | _, _, .nil => fun y hy => by simp at hy
  | _, _, .cons r t => fun y hy => by
    rcases List.mem_cons.mp hy with e | hy
    · subst e; exact h _ _ r
    · exact All2.right h t y hy
end
/-- [e for x in xs]: over items that stay -/
theorem wp_lc {fi : FI} {fe : FE} {env : En} {M : Mem} {q : QE} {v : Nat} {vs : List Nat} (R : Dv → Dv → Prop) (W : Nat → Prop) (J : Mem → Prop)
    (h : Wp (fi env M) fun src M1 => ∃ xs : List Dv, src.many = xs.length ∧ xs.length ≤ sizeLine ∧ ¬ W M1.length ∧ (∀ i M', Kp W M1 M' → J M' → i ≤ xs.length → src.stp i M' = some xs[i]?) ∧
      J (M1 ++ [.lst []]) ∧ (∀ M' acc acc', J M' → M'[M1.length]? = some (.lst acc) → J (M'.set M1.length (.lst acc'))) ∧
      (∀ x ∈ xs, ∀ M', Kp W M1 M' → M1.length < M'.length → J M' → Wp (fe ((wipeE env vs).set v (some x)) M') fun y M3 => R x y ∧ Kp W M' M3 ∧ J M3) ∧
      ∀ ys M', All2 R xs ys → Kp W M1 M' → J M' → M'[M1.length]? = some (.lst ys) → q (.loc M1.length) M') : Wp (fComp fi vs (gN v) fYes fe env M) q := by
  refine wp_bnd (h.go fun src M1 ⟨xs, h1, h2, h3, h4, h5, h6, h7, h8⟩ => ?_)
  have key : ∃ M', compF src.stp (gN v) fYes fe (wipeE env vs) M1.length src.many 0 (M1 ++ [.lst []]) = some M' ∧ q (.loc M1.length) M' := by
    refine wp_compI (fun i acc M' => i ≤ xs.length ∧ All2 R (xs.take i) acc ∧ Kp W M1 M' ∧ J M' ∧ M'[M1.length]? = some (.lst acc)) src.many (fun i acc M' hh => hh.2.2.2.2) ?_ ?_ src.many 0 [] _ (by omega) ⟨Nat.zero_le _, .nil, .app _, h5, at_new⟩
    · rintro i acc M' hi ⟨a0, a1, a2, a3, a4⟩
      have hx : xs[i]? = some (xs[i]'(by omega)) := List.getElem?_eq_getElem (by omega)
      refine ⟨xs[i]'(by omega), by rw [h4 i M' a2 a3 a0, hx], wp_gN (wp_ok ?_)⟩
      refine (h7 _ (List.getElem_mem _) M' a2 (lt_of a4) a3).go fun y M3 ⟨b1, b2, b3⟩ => ?_
      have c1 : M3[M1.length]? = some (.lst acc) := b2.at a4 h3
      have c2 := a1.length
      rw [List.length_take] at c2
      refine ⟨acc, c1, by omega, by omega, ?_, (a2.tr b2).trans (Kp.set (W := fun n => n = M1.length) fun _ => rfl) ?_, h6 M3 acc _ b3 c1, at_set c1⟩
      · have e : xs.take (i + 1) = xs.take i ++ [xs[i]'(by omega)] := by
          rw [List.take_add_one, hx]; rfl
        rw [e]
        exact a1.snoc b1
      · intro n hn w
        omega
    · rintro acc M' ⟨a0, a1, a2, a3, a4⟩
      refine ⟨?_, ?_⟩
      · rw [h4 _ M' a2 a3 a0, h1]
        simp
      · rw [h1, List.take_length] at a1
        exact h8 acc M' a1 a2 a3 a4
  obtain ⟨M', e, k⟩ := key
  show Wp (match compF _ _ _ _ _ _ _ _ _ with | some M2 => some (Dv.loc M1.length, M2) | none => none) q
  rw [e]
  exact wp_ok k
theorem wp_lstA {env : En} {M : Mem} {fr : FA} {q : QE} (h : Wp (fr env M) (kLe fun ds M1 => ∀ n M2, n = M1.length → M2[n]? = some (.lst ds) → Kp NoW M1 M2 → M2.length = n + 1 → q (.loc n) M2)) : Wp (fLst fr env M) q :=
  wp_lst (h.go fun ds M1 k => ⟨k.1, k.2 _ _ rfl at_new (.app _) (by simp)⟩)
/-- [e for x in xs if t], nothing else written -/
theorem wp_lcF {fi : FI} {ft : FT} {fe : FE} {env : En} {M : Mem} {q : QE} {v : Nat} {vs : List Nat} (p : Dv → Bool) (φ : Dv → Dv)
    (h : Wp (fi env M) fun src M1 => ∃ xs : List Dv, src.many = xs.length ∧ xs.length ≤ sizeLine ∧ (∀ i M', Kp NoW M1 M' → i ≤ xs.length → src.stp i M' = some xs[i]?) ∧
      (∀ x ∈ xs, ∀ M', Kp NoW M1 M' → Wp (ft ((wipeE env vs).set v (some x)) M') fun b M2 => b = p x ∧ Kp NoW M' M2) ∧
      (∀ x ∈ xs, ∀ M', Kp NoW M1 M' → Wp (fe ((wipeE env vs).set v (some x)) M') fun y M3 => y = φ x ∧ Kp NoW M' M3) ∧
      ∀ M', Kp NoW M1 M' → M'[M1.length]? = some (.lst ((xs.filter p).map φ)) → q (.loc M1.length) M') : Wp (fComp fi vs (gN v) ft fe env M) q := by
  refine wp_bnd (h.go fun src M1 ⟨xs, h1, h2, h4, h6, h7, h8⟩ => ?_)
  have key : ∃ M', compF src.stp (gN v) ft fe (wipeE env vs) M1.length src.many 0 (M1 ++ [.lst []]) = some M' ∧ q (.loc M1.length) M' := by
    refine wp_compI (fun i acc M' => i ≤ xs.length ∧ acc = ((xs.take i).filter p).map φ ∧ Kp NoW M1 M' ∧ M'[M1.length]? = some (.lst acc)) src.many (fun i acc M' hh => hh.2.2.2) ?_ ?_ src.many 0 [] _ (by omega) ⟨Nat.zero_le _, rfl, .app _, at_new⟩
    · rintro i acc M' hi ⟨a0, a1, a2, a4⟩
      have hx : xs[i]? = some (xs[i]'(by omega)) := List.getElem?_eq_getElem (by omega)
      have e : xs.take (i + 1) = xs.take i ++ [xs[i]'(by omega)] := by
        rw [List.take_add_one, hx]; rfl
      refine ⟨xs[i]'(by omega), by rw [h4 i M' a2 a0, hx], wp_gN ?_⟩
      refine (h6 _ (List.getElem_mem _) M' a2).go fun b M2 ⟨b1, b2⟩ => ?_
      cases hb : p (xs[i]'(by omega)) with
      | false =>
        rw [b1, hb]
        refine ⟨by omega, ?_, a2.tr b2, b2.at a4 id⟩
        rw [e, List.filter_append, List.filter_cons, if_neg (by rw [hb]; decide)]; simpa using a1
      | true =>
        rw [b1, hb]
        refine (h7 _ (List.getElem_mem _) M2 (a2.tr b2)).go fun y M3 ⟨c1, c2⟩ => ?_
        have d1 : M3[M1.length]? = some (.lst acc) := c2.at (b2.at a4 id) id
        refine ⟨acc, d1, ?_, by omega, ?_, ((a2.tr b2).tr c2).trans (Kp.set (W := fun n => n = M1.length) fun _ => rfl) ?_, at_set d1⟩
        · rw [a1, List.length_map]
          have := List.length_filter_le p (xs.take i)
          rw [List.length_take] at this
          omega
        · rw [e, List.filter_append, List.filter_cons, if_pos hb, a1, c1]; simp
        · intro n hn w; omega
    · rintro acc M' ⟨a0, a1, a2, a4⟩
      refine ⟨by rw [h4 _ M' a2 a0, h1]; simp, ?_⟩
      rw [h1, List.take_length] at a1
      subst a1
      exact h8 M' a2 a4
  obtain ⟨M', e, k⟩ := key
  show Wp (match compF _ _ _ _ _ _ _ _ _ with | some M2 => some (Dv.loc M1.length, M2) | none => none) q
  rw [e]
  exact wp_ok k
/-- [e for x in xs], nothing else written -/
theorem wp_lcP {fi : FI} {fe : FE} {env : En} {M : Mem} {q : QE} {v : Nat} {vs : List Nat} (φ : Dv → Dv)
    (h : Wp (fi env M) fun src M1 => ∃ xs : List Dv, src.many = xs.length ∧ xs.length ≤ sizeLine ∧ (∀ i M', Kp NoW M1 M' → i ≤ xs.length → src.stp i M' = some xs[i]?) ∧
      (∀ x ∈ xs, ∀ M', Kp NoW M1 M' → Wp (fe ((wipeE env vs).set v (some x)) M') fun y M3 => y = φ x ∧ Kp NoW M' M3) ∧
      ∀ M', Kp NoW M1 M' → M'[M1.length]? = some (.lst (xs.map φ)) → q (.loc M1.length) M') : Wp (fComp fi vs (gN v) fYes fe env M) q :=
  wp_lcF (fun _ => true) φ (h.go fun src M1 ⟨xs, h1, h2, h3, h4, h5⟩ => ⟨xs, h1, h2, h3, fun x hx M' k => wp_ok ⟨rfl, .refl⟩, h4, fun M' k e => h5 M' k (by rw [e, List.filter_eq_self.mpr (fun _ _ => rfl)])⟩)
theorem wp_mulT {xs : List Dv} {k : Nat} {M : Mem} {q : QE} (h : xs.length * k ≤ 16777216) (h2 : k < 1000000) (c : q (.tup (List.replicate k xs).flatten) M) : Wp (mulD (.tup xs) (.int (k : Nat)) M) q := by
  refine wp_ev ?_ c
  have e : ((k : Nat) : Int).toNat = k := Int.toNat_natCast k
  unfold mulD
  simp only [e]
  rw [if_pos ⟨by omega, by omega, Nat.le_trans h (by decide)⟩]
theorem wp_mulL {n : Nat} {xs : List Dv} {k : Nat} {M : Mem} {q : QE} (hm : M[n]? = some (.lst xs)) (h : xs.length * k ≤ 16777216) (h2 : k < 1000000)
    (c : ∀ m M2, m = M.length → M2[m]? = some (.lst (List.replicate k xs).flatten) → Kp NoW M M2 → M2.length = m + 1 → q (.loc m) M2) : Wp (mulD (.loc n) (.int (k : Nat)) M) q := by
  refine wp_ev (a := .loc M.length) (M' := M ++ [.lst (List.replicate k xs).flatten]) ?_ (c _ _ rfl at_new (.app _) (by simp))
  have e : ((k : Nat) : Int).toNat = k := Int.toNat_natCast k
  unfold mulD
  simp only [hm, e]
  rw [if_pos ⟨by omega, by omega, Nat.le_trans h (by decide)⟩]
theorem wp_extend {n m : Nat} {xs ys : List Dv} {M : Mem} {q : QE} (hn : M[n]? = some (.lst xs)) (hm : M[m]? = some (.lst ys)) (h : xs.length + ys.length ≤ 16777216) (k : q .non (M.set n (.lst (xs ++ ys)))) : Wp (extendD (.loc n) [.loc m] M) q := by
  refine wp_ev ?_ k
  unfold extendD
  simp only [hn, hm]
  rw [if_pos (Nat.le_trans h (by decide))]
theorem wp_addT {xs ys : List Dv} {M : Mem} {q : QE} (h : xs.length + ys.length ≤ 16777216) (k : q (.tup (xs ++ ys)) M) : Wp (addD (.tup xs) (.tup ys) M) q := by
  refine wp_ev ?_ k
  unfold addD
  simp only
  rw [if_pos (Nat.le_trans h (by decide))]
theorem wp_lcI {fi : FI} {fe : FE} {env : En} {M : Mem} {q : QE} {v : Nat} {vs : List Nat} (I : Nat → Nat → List Dv → Mem → Prop)
    (h : Wp (fi env M) fun src M1 => (∀ i acc M', I M1.length i acc M' → M'[M1.length]? = some (.lst acc)) ∧ I M1.length 0 [] (M1 ++ [.lst []]) ∧
      (∀ i acc M', i < src.many → I M1.length i acc M' → ∃ d, src.stp i M' = some (some d) ∧ Wp (fe ((wipeE env vs).set v (some d)) M') fun y M3 => ∃ acc', M3[M1.length]? = some (.lst acc') ∧ acc'.length < sizeLine ∧ I M1.length (i + 1) (acc' ++ [y]) (M3.set M1.length (.lst (acc' ++ [y])))) ∧
      ∀ acc M', I M1.length src.many acc M' → src.stp src.many M' = some none ∧ q (.loc M1.length) M') : Wp (fComp fi vs (gN v) fYes fe env M) q := by
  refine wp_bnd (h.go fun src M1 ⟨h0, h1, h2, h3⟩ => ?_)
  obtain ⟨M', e, k⟩ := wp_compI (it := src.stp) (g := gN v) (ft := fYes) (fe := fe) (e0 := wipeE env vs) (n := M1.length) (q := fun M' => q (.loc M1.length) M') (I M1.length) src.many h0
    (fun i acc M' hi hh => by
      obtain ⟨d, e, w⟩ := h2 i acc M' hi hh
      exact ⟨d, e, wp_gN (wp_ok w)⟩) h3 src.many 0 [] _ (by omega) h1
  show Wp (match compF _ _ _ _ _ _ _ _ _ with | some M2 => some (Dv.loc M1.length, M2) | none => none) q
  rw [e]
  exact wp_ok k
theorem wp_enum {env : En} {M : Mem} {qi : Src → Mem → Prop} {fa : FE} (h : Wp (fa env M) fun d M1 => ∃ src, srcE M1 d = some src ∧ qi src M1) : Wp (fEnum fa env M) qi := wp_bnd (h.go fun d M1 ⟨s, e, k⟩ => by
  show Wp (match srcE M1 d with | some s => some (s, M1) | none => none) _
  rw [e]; exact wp_ok k)
theorem ins_ok {c n : Nat} {fs : List (Str × Dv)} {m : Str} {M : Mem} (h : M[n]? = some (.ins c fs)) (hl : (fs.lookup m).isNone = true) : isIns c m (.loc n) M = true := by
  unfold isIns
  simp only [h, hl, beq_self_eq_true, Bool.and_self]
theorem wp_inL {b : Bool} {n : Nat} {x : Dv} {ys : List Dv} {M : Mem} {q : QE} (h : M[n]? = some (.lst ys)) (hx : flatD x = true) (hy : ys.all flatD = true) (k : q (.bl (xor b (ys.any fun y => eqF y x))) M) : Wp (inE b x (.loc n) M) q := by
  refine wp_ev ?_ k
  unfold inE inD
  cases x <;> simp_all [flatD]
theorem wp_indexL {n j : Nat} {x : Dv} {ys : List Dv} {M : Mem} {q : QE} (h : M[n]? = some (.lst ys)) (hx : flatD x = true) (hy : ys.all flatD = true) (hj : idxB (fun y => eqF y x) ys = some j) (k : q (.int (j : Nat)) M) : Wp (indexD (.loc n) [x] M) q := by
  refine wp_ev ?_ k
  unfold indexD
  simp only [h, hx, hy, Bool.and_self, if_true, hj]
theorem idxB_of {p : Dv → Bool} : ∀ {ys : List Dv}, ys.any p = true → ∃ j, idxB p ys = some j ∧ j < ys.length
  | [], h => by simp at h
  | y :: ys, h => by
    unfold idxB
    by_cases hp : p y = true
    · exact ⟨0, if_pos hp, by simp⟩
    · rw [if_neg hp]
      rw [List.any_cons, Bool.or_eq_true] at h
      obtain ⟨j, e, hj⟩ := idxB_of (h.resolve_left hp)
      exact ⟨j + 1, by rw [e], by simp; omega⟩
theorem cut_take {xs : List Dv} {c : Nat} (h : c ≤ xs.length) : cutD xs none (some (c : Nat)) = xs.take c := by
  unfold cutD
  have e1 : HT.sIx xs.length 0 none = 0 := rfl
  have e2 : HT.sIx xs.length xs.length (some (c : Nat)) = c := by
    rw [HT.sIx_nat]; omega
  rw [e1, e2]; simp
def stpL (n : Nat) : Stp := fun i M => match M[n]? with
  | some (.lst xs) => some xs[i]?
  | _ => none
theorem stpL_at {n i : Nat} {M : Mem} {xs : List Dv} (h : M[n]? = some (.lst xs)) : stpL n i M = some xs[i]? := by
  unfold stpL; simp only [h]
theorem src_loc {n : Nat} {M : Mem} {xs : List Dv} (h : M[n]? = some (.lst xs)) : srcOf M (.loc n) = some ⟨xs.length, stpL n⟩ := by
  unfold srcOf; simp only [h]; rfl
theorem wp_slR {xs : List Dv} {lo hi : Option Int} {M : Mem} {q : QE} (k : ∀ n M2, n = M.length → M2[n]? = some (.lst (cutD xs lo hi)) → Kp NoW M M2 → M2.length = n + 1 → q (.loc n) M2) : Wp (slD (.rol xs) lo hi M) q :=
  wp_ev (M' := M ++ [.lst (cutD xs lo hi)]) rfl (k _ _ rfl at_new (.app _) (by simp))
theorem wp_slT {xs : List Dv} {lo hi : Option Int} {M : Mem} {q : QE} (k : q (.tup (cutD xs lo hi)) M) : Wp (slD (.tup xs) lo hi M) q := wp_ok k
theorem cut_mem {xs : List Dv} {lo hi : Option Int} {x : Dv} (h : x ∈ cutD xs lo hi) : x ∈ xs := List.mem_of_mem_drop (List.mem_of_mem_take h)
def intsR (n : Nat) : List Dv := (List.range n).map fun j => Dv.int (j : Nat)
theorem intsR_len {n : Nat} : (intsR n).length = n := by simp [intsR]
theorem rng_go {n i : Nat} {M : Mem} (h : i < n) : (srcR 0 n).stp i M = some (some (.int (i : Nat))) := by
  show (if i < n then some (some (Dv.int (0 + i))) else some none) = _
  rw [if_pos h, Int.zero_add]
theorem rng_end {n : Nat} {M : Mem} : (srcR 0 n).stp n M = some none := by
  show (if n < n then some (some (Dv.int (0 + n))) else some none) = _
  rw [if_neg (Nat.lt_irrefl _)]
theorem rng_stp {n i : Nat} {M : Mem} : (srcR 0 n).stp i M = some (intsR n)[i]? := by
  by_cases h : i < n
  · rw [rng_go h]; simp [intsR, h]
  · show (if i < n then some (some (Dv.int (0 + i))) else some none) = _
    rw [if_neg h, List.getElem?_eq_none (by simpa [intsR] using h)]
theorem rgD_n {n : Nat} : rgD 0 (n : Nat) = intsR n := by
  unfold rgD intsR
  simp
theorem wp_tupR {env : En} {M : Mem} {fa : FE} {q : QE} (h : Wp (fa env M) fun d M1 => ∃ n : Nat, d = .int (n : Nat) ∧ n ≤ 1000 ∧ q (.tup (intsR n)) M1) : Wp (fTupR (fRg1 fa) env M) q := by
  obtain ⟨d, M1, e, n, rfl, hn, k⟩ := h
  refine ⟨_, M1, ?_, k⟩
  have hk : rgOk 0 (n : Nat) = true := by
    unfold rgOk
    rw [decide_eq_true_eq]
    omega
  unfold fTupR fRg1 bnd
  simp only [e, hk, if_true, rgD_n]
theorem wp_rngN {env : En} {M : Mem} {qi : Src → Mem → Prop} {fa : FE} (h : Wp (fa env M) fun d M1 => ∃ n : Nat, d = .int (n : Nat) ∧ n < 2 ^ 62 ∧ qi (srcR 0 n) M1) : Wp (fRng1 fa env M) qi := wp_rng1 (h.go fun d M1 ⟨n, e, h1, k⟩ => ⟨n, e, by omega, by simpa using k⟩)
end Zl

/-! text Y2 -/
namespace Zl
open PySem L2 PySem.Spec PyProof.Rows

/-! ## the same rules, each with a name for what it asks -/
section
variable {env e : En} {M : Mem} {d x : Dv} {fa fb : FE} {fr : FA} {q : QE} {Q : QS} {n k c np : Nat} {xs : List Dv} {fs : List (Str × Dv)} {fld m : Str} {F : FF}
def kFld (c : Nat) (fld : Str) (q : QE) : QE := fun d M => ∃ k fs x, d = .loc k ∧ M[k]? = some (.ins c fs) ∧ fs.lookup fld = some x ∧ q x M
theorem wq_fld (h : Wp (fa env M) (kFld c fld q)) : Wp (fFld c fld fa env M) q := wp_fld h
theorem k_fld (h : M[k]? = some (.ins c fs)) (hl : fs.lookup fld = some x) (hq : q x M) : kFld c fld q (.loc k) M := ⟨k, fs, x, rfl, h, hl, hq⟩
def kPut (c : Nat) (fld : Str) (y : Dv) (q : Mem → Prop) : QE := fun d M => ∃ k fs, d = .loc k ∧ M[k]? = some (.ins c fs) ∧ fs.length < 1000 ∧ q (M.set k (.ins c (putD fld y fs)))
theorem wq_put (h : Wp (fa env M) fun y M1 => Wp (fb env M1) (kPut c fld y fun M' => Q (.nx env) M')) : Wp (fPut c fld fb fa env M) Q := wp_put h
theorem k_put {y : Dv} {q : Mem → Prop} (h : M[k]? = some (.ins c fs)) (hl : fs.length.blt 1000 = true) (hq : q (M.set k (.ins c (putD fld y fs)))) : kPut c fld y q (.loc k) M := ⟨k, fs, rfl, h, by simpa using Nat.lt_of_lt_of_le (Nat.le_of_ble_eq_true hl) (Nat.le_refl _), hq⟩
def kIns (c : Nat) (m : Str) (q : QE) : QE := fun d M => isIns c m d M = true ∧ q d M
theorem k_ins (h : M[k]? = some (.ins c fs)) (hl : (fs.lookup m).isNone = true) (hq : q (.loc k) M) : kIns c m q (.loc k) M := ⟨ins_ok h hl, hq⟩
theorem wq_meth (h : Wp (fa env M) (kIns c m fun d M1 => Wp (fr env M1) (kLen (np - 1) fun ds M2 => 0 < np ∧ Wp (F (d :: ds) M2) q))) : Wp (fMeth c m np F fa fr env M) q :=
  wp_meth (h.go fun d M1 ⟨h1, h2⟩ => ⟨h1, h2.go fun ds M2 ⟨h3, h4, h5⟩ => ⟨by rw [List.length_cons, h3]; omega, h5⟩⟩)
def kPos (np : Nat) (P : Prop) : Prop := 0 < np ∧ P
theorem wq_meth' (h : Wp (fa env M) (kIns c m fun d M1 => Wp (fr env M1) (kLen (np - 1) fun ds M2 => kPos np (Wp (F (d :: ds) M2) q)))) : Wp (fMeth c m np F fa fr env M) q := wq_meth h
theorem k_pos {P : Prop} (h : P) : kPos (np + 1) P := ⟨by omega, h⟩
def kNon (q : Mem → Prop) : QE := fun d M => d = .non ∧ q M
theorem k_non {q : Mem → Prop} (h : q M) : kNon q .non M := ⟨rfl, h⟩
theorem wq_make (h : Wp (fr env M) (kLen (np - 1) fun ds M1 => kPos np (Wp (F (.loc M1.length :: ds) (M1 ++ [.ins c []])) (kNon fun M2 => q (.loc M1.length) M2)))) : Wp (fMake c np F fr env M) q :=
  wp_make (h.go fun ds M1 ⟨h1, h2, h3⟩ => ⟨by omega, h3.go fun d M2 ⟨h4, h5⟩ => ⟨h4, h5⟩⟩)
def kTy (T : String) (q : QE) : QE := fun d M => isTy T d M = true ∧ q d M
theorem k_tyL (h : M[n]? = some (.lst xs)) (hq : q (.loc n) M) : kTy "list" q (.loc n) M := ⟨ty_lst h, hq⟩
theorem k_tyT (hq : q (.tup xs) M) : kTy "tuple" q (.tup xs) M := ⟨rfl, hq⟩
theorem wq_m {T : String} {h : FM} (k : Wp (fa env M) (kTy T fun d M1 => Wp (fr env M1) fun ds M2 => Wp (h d ds M2) q)) : Wp (fM T h fa fr env M) q := wp_m k
def kSrc (qi : Src → Mem → Prop) : QE := fun d M => ∃ src, srcOf M d = some src ∧ qi src M
theorem wq_src {qi : Src → Mem → Prop} (h : Wp (fa env M) (kSrc qi)) : Wp (fSrc fa env M) qi := wp_src h
theorem k_srcL {qi : Src → Mem → Prop} (h : M[n]? = some (.lst xs)) (hq : qi ⟨xs.length, stpL n⟩ M) : kSrc qi (.loc n) M := ⟨_, src_loc h, hq⟩
def stpC (xs : List Dv) : Stp := fun i _ => some xs[i]?
theorem k_srcT {qi : Src → Mem → Prop} (hq : qi ⟨xs.length, stpC xs⟩ M) : kSrc qi (.tup xs) M := ⟨_, rfl, hq⟩
theorem k_srcR {qi : Src → Mem → Prop} (hq : qi ⟨xs.length, stpC xs⟩ M) : kSrc qi (.rol xs) M := ⟨_, rfl, hq⟩
def kInt (q : Int → Mem → Prop) : QE := fun d M => ∃ i, d = .int i ∧ q i M
theorem k_int {i : Int} {q : Int → Mem → Prop} (h : q i M) : kInt q (.int i) M := ⟨i, rfl, h⟩
theorem wq_P {qo : Option Int → Mem → Prop} (h : Wp (fa env M) (kInt fun i M1 => qo (some i) M1)) : Wp (fP fa env M) qo := wp_P h
def kNat (q : Nat → Mem → Prop) : QE := fun d M => ∃ n : Nat, d = .int (n : Nat) ∧ q n M
theorem k_nat {q : Nat → Mem → Prop} (h : q n M) : kNat q (.int (n : Nat)) M := ⟨n, rfl, h⟩
theorem k_natL {l : Nat} {q : Nat → Mem → Prop} (h : q l M) : kNat q (.int (OfNat.ofNat l : Int)) M := ⟨l, rfl, h⟩
theorem k_natI {i : Int} {q : Nat → Mem → Prop} (n : Nat) (e : i = n) (h : q n M) : kNat q (.int i) M := ⟨n, by rw [e], h⟩
def kSml (n : Nat) (P : Prop) : Prop := n < 2 ^ 62 ∧ P
theorem k_sml {P : Prop} (h : n < 2 ^ 62) (p : P) : kSml n P := ⟨h, p⟩
theorem wq_rng {qi : Src → Mem → Prop} (h : Wp (fa env M) (kNat fun n M1 => kSml n (qi (srcR 0 n) M1))) : Wp (fRng1 fa env M) qi := wp_rngN h
def kSet (o i d : Dv) (q : Mem → Prop) (M : Mem) : Prop := ∃ M3, setE o i d M = some M3 ∧ q M3
theorem wq_gS {fo fi : FE} {qe : En → Mem → Prop} (h : Wp (fo env M) fun o M1 => Wp (fi env M1) fun i M2 => kSet o i d (fun M3 => qe env M3) M2) : Wp (gSE fo fi d env M) qe := wp_gS h
theorem k_set {j : Nat} {i : Int} {q : Mem → Prop} (hm : M[n]? = some (.lst xs)) (hj : ixN xs.length i = some j) (h : q (M.set n (.lst (xs.set j d)))) : kSet (.loc n) (.int i) d q M := ⟨_, set_i hm hj, h⟩
theorem k_setN {j : Nat} {q : Mem → Prop} (hm : M[n]? = some (.lst xs)) (hj : j < xs.length) (h : q (M.set n (.lst (xs.set j d)))) : kSet (.loc n) (.int (j : Nat)) d q M := ⟨_, set_at hm hj, h⟩
/-- for x in a tuple or a locked list: turn by turn -/
theorem stpC_go {i : Nat} (h : xs[i]? = some d) : stpC xs i M = some (some d) := by unfold stpC; rw [h]
theorem stpC_end : stpC xs xs.length M = some none := by unfold stpC; simp
theorem stpL_go {i : Nat} (hm : M[n]? = some (.lst xs)) (h : xs[i]? = some d) : stpL n i M = some (some d) := by rw [stpL_at hm, h]
theorem stpL_end (hm : M[n]? = some (.lst xs)) : stpL n xs.length M = some none := by rw [stpL_at hm]; simp
end
theorem Kp.tl {W W' : Nat → Prop} {M M1 M2 : Mem} (b : Kp W' M1 M2) (a : Kp W M M1) (h : ∀ n, n < M.length → W' n → W n) : Kp W M M2 := a.trans b h
theorem Kp.setl {W : Nat → Prop} {M M1 : Mem} {n : Nat} {o : Ob} (a : Kp W M M1) (h : n < M.length → W n) : Kp W M (M1.set n o) := a.trans (Kp.set (W := fun m => m = n) fun _ => rfl) fun m hm e => by subst e; exact h hm
theorem Kp.appl {W : Nat → Prop} {M M1 : Mem} {L : Mem} (a : Kp W M M1) : Kp W M (M1 ++ L) := a.trans (Kp.app (W := fun _ => False) _) fun _ _ h => h.elim
theorem wp_inT {b : Bool} {x : Dv} {ys : List Dv} {M : Mem} {q : QE} (h : inE b x (.tup ys) M = some (.bl (xor b (ys.any fun y => eqF y x)), M)) (k : q (.bl (xor b (ys.any fun y => eqF y x))) M) : Wp (inE b x (.tup ys) M) q := wp_ev h k
end Zl
namespace Zl
open PySem L2 PySem.Spec PyProof.Rows
def kNew (o : Ob) (q : Nat → Mem → Prop) (M : Mem) : Prop := ∀ n M2, n = M.length → M2[n]? = some o → Kp NoW M M2 → M2.length = n + 1 → q n M2
theorem k_new {o : Ob} {q : Nat → Mem → Prop} {M : Mem} (h : ∀ n M2, n = M.length → M2[n]? = some o → Kp NoW M M2 → M2.length = n + 1 → q n M2) : kNew o q M := h
theorem wq_lst {env : En} {M : Mem} {fr : FA} {q : QE} (h : Wp (fr env M) (kLe fun ds M1 => kNew (.lst ds) (fun n M2 => q (.loc n) M2) M1)) : Wp (fLst fr env M) q := wp_lstA h
theorem wq_make2 {env : En} {M : Mem} {fr : FA} {q : QE} {c np : Nat} {F : FF} (h : Wp (fr env M) (kLen (np - 1) fun ds M1 => kPos np (kNew (.ins c []) (fun n M2 => Wp (F (.loc n :: ds) M2) (kNon fun M3 => q (.loc n) M3)) M1))) : Wp (fMake c np F fr env M) q :=
  wq_make (h.go fun ds M1 ⟨h1, h2, h3⟩ => ⟨h1, h2, h3 _ _ rfl at_new (.app _) (by simp)⟩)
def kMulN (n : Nat) (P : Prop) : Prop := n ≤ 1000 ∧ P
theorem wq_mulL {n : Nat} {xs : List Dv} {k : Nat} {M : Mem} {q : QE} (hm : M[n]? = some (.lst xs)) (h1 : xs.length ≤ 16) (h2 : k ≤ 100000)
    (c : kNew (.lst (List.replicate k xs).flatten) (fun m M2 => q (.loc m) M2) M) : Wp (mulD (.loc n) (.int (k : Nat)) M) q :=
  wp_mulL hm (Nat.le_trans (Nat.mul_le_mul h1 h2) (by decide)) (by omega) c
theorem wq_slR {xs : List Dv} {lo hi : Option Int} {M : Mem} {q : QE} (k : kNew (.lst (cutD xs lo hi)) (fun n M2 => q (.loc n) M2) M) : Wp (slD (.rol xs) lo hi M) q := wp_slR k
theorem wq_slL {m : Nat} {xs : List Dv} {lo hi : Option Int} {M : Mem} {q : QE} (hm : M[m]? = some (.lst xs)) (k : kNew (.lst (cutD xs lo hi)) (fun n M2 => q (.loc n) M2) M) : Wp (slD (.loc m) lo hi M) q := by
  refine wp_ev (a := .loc M.length) (M' := M ++ [.lst (cutD xs lo hi)]) ?_ (k _ _ rfl at_new (.app _) (by simp))
  unfold slD
  simp only [hm]
/-- a comprehension that writes nothing else -/
def kLc (fe : FE) (ft : FT) (env : En) (v : Nat) (vs : List Nat) (p : Dv → Bool) (φ : Dv → Dv) (q : QE) : Src → Mem → Prop := fun src M1 => ∃ xs : List Dv, src.many = xs.length ∧ xs.length ≤ sizeLine ∧ (∀ i M', Kp NoW M1 M' → i ≤ xs.length → src.stp i M' = some xs[i]?) ∧
      (∀ x ∈ xs, ∀ M', Kp NoW M1 M' → Wp (ft ((wipeE env vs).set v (some x)) M') fun b M2 => b = p x ∧ Kp NoW M' M2) ∧
      (∀ x ∈ xs, ∀ M', Kp NoW M1 M' → Wp (fe ((wipeE env vs).set v (some x)) M') fun y M3 => y = φ x ∧ Kp NoW M' M3) ∧
      ∀ M', Kp NoW M1 M' → M'[M1.length]? = some (.lst ((xs.filter p).map φ)) → q (.loc M1.length) M'
theorem wq_lcF {fi : FI} {ft : FT} {fe : FE} {env : En} {M : Mem} {q : QE} {v : Nat} {vs : List Nat} (p : Dv → Bool) (φ : Dv → Dv) (h : Wp (fi env M) (kLc fe ft env v vs p φ q)) : Wp (fComp fi vs (gN v) ft fe env M) q := wp_lcF p φ h
def kMap (fe : FE) (env : En) (v : Nat) (vs : List Nat) (φ : Dv → Dv) (q : QE) : Src → Mem → Prop := fun src M1 => ∃ xs : List Dv, src.many = xs.length ∧ xs.length ≤ sizeLine ∧ (∀ i M', Kp NoW M1 M' → i ≤ xs.length → src.stp i M' = some xs[i]?) ∧
      (∀ x ∈ xs, ∀ M', Kp NoW M1 M' → Wp (fe ((wipeE env vs).set v (some x)) M') fun y M3 => y = φ x ∧ Kp NoW M' M3) ∧
      ∀ n M', n = M1.length → M1.length < M'.length → Kp NoW M1 M' → M'[n]? = some (.lst (xs.map φ)) → q (.loc n) M'
theorem wq_map {fi : FI} {fe : FE} {env : En} {M : Mem} {q : QE} {v : Nat} {vs : List Nat} (φ : Dv → Dv) (h : Wp (fi env M) (kMap fe env v vs φ q)) : Wp (fComp fi vs (gN v) fYes fe env M) q :=
  wp_lcP φ (h.go fun src M1 ⟨xs, h1, h2, h3, h4, h5⟩ => ⟨xs, h1, h2, h3, h4, fun M' k g => h5 _ _ rfl (lt_of g) k g⟩)
section
variable {fe : FE} {env : En} {v n : Nat} {vs : List Nat} {φ : Dv → Dv} {q : QE} {xs : List Dv} {M : Mem}
theorem k_mapT (hl : xs.length ≤ sizeLine) (he : ∀ x ∈ xs, ∀ M', Kp NoW M M' → Wp (fe ((wipeE env vs).set v (some x)) M') fun y M3 => y = φ x ∧ Kp NoW M' M3)
    (hq : ∀ n M', n = M.length → M.length < M'.length → Kp NoW M M' → M'[n]? = some (.lst (xs.map φ)) → q (.loc n) M') : kMap fe env v vs φ q ⟨xs.length, stpC xs⟩ M := ⟨xs, rfl, hl, fun _ _ _ _ => rfl, he, hq⟩
theorem k_mapL {m : Nat} (hm : M[m]? = some (.lst xs)) (hl : xs.length ≤ sizeLine) (he : ∀ x ∈ xs, ∀ M', Kp NoW M M' → Wp (fe ((wipeE env vs).set v (some x)) M') fun y M3 => y = φ x ∧ Kp NoW M' M3)
    (hq : ∀ n M', n = M.length → M.length < M'.length → Kp NoW M M' → M'[n]? = some (.lst (xs.map φ)) → q (.loc n) M') : kMap fe env v vs φ q ⟨xs.length, stpL m⟩ M := ⟨xs, rfl, hl, fun _ M' k _ => stpL_at (k.at hm id), he, hq⟩
theorem k_mapR {m : Nat} (hl : m ≤ sizeLine) (he : ∀ j : Nat, j < m → ∀ M', Kp NoW M M' → Wp (fe ((wipeE env vs).set v (some (.int (j : Nat)))) M') fun y M3 => y = φ (.int (j : Nat)) ∧ Kp NoW M' M3)
    (hq : ∀ n M', n = M.length → M.length < M'.length → Kp NoW M M' → M'[n]? = some (.lst ((intsR m).map φ)) → q (.loc n) M') : kMap fe env v vs φ q (srcR 0 m) M :=
  ⟨intsR m, intsR_len.symm, by rw [intsR_len]; exact hl, fun _ _ _ _ => rng_stp, fun x hx => by
    unfold intsR at hx
    obtain ⟨j, hj, rfl⟩ := List.mem_map.mp hx
    exact he j (List.mem_range.mp hj), hq⟩
end
theorem size_le {n : Nat} (h : n ≤ 16000000) : n ≤ sizeLine := Nat.le_trans h (by decide)
theorem size_lt {n : Nat} (h : n ≤ 16000000) : n < sizeLine := Nat.lt_of_le_of_lt h (by decide)
/-- a for over a range -/
theorem wq_forR {env : En} {M : Mem} {g : FG} {f : FS} {Q : QS} {n : Nat} (I : Nat → En → Mem → Prop) (h0 : I 0 env M) (h1 : ∀ i env M, i < n → I i env M → Wp (g (.int (i : Nat)) env M) fun e1 M1 => Wp (f e1 M1) (kLoop (I (i + 1)) Q)) (h2 : ∀ env M, I n env M → Q (.nx env) M) :
    I 0 env M ∧ (∀ i env M, i < (srcR 0 n).many → I i env M → ∃ d, (srcR 0 n).stp i M = some (some d) ∧ Wp (g d env M) fun e1 M1 => Wp (f e1 M1) (kLoop (I (i + 1)) Q)) ∧ ∀ env M, I (srcR 0 n).many env M → (srcR 0 n).stp (srcR 0 n).many M = some none ∧ Q (.nx env) M :=
  ⟨h0, fun i env M hi hh => ⟨_, rng_go hi, h1 i env M hi hh⟩, fun env M hh => ⟨rng_end, h2 env M hh⟩⟩
/-- a for over a tuple -/
theorem wq_forT {env : En} {M : Mem} {g : FG} {f : FS} {Q : QS} {xs : List Dv} (I : Nat → En → Mem → Prop) (h0 : I 0 env M) (h1 : ∀ i d env M, xs[i]? = some d → I i env M → Wp (g d env M) fun e1 M1 => Wp (f e1 M1) (kLoop (I (i + 1)) Q)) (h2 : ∀ env M, I xs.length env M → Q (.nx env) M) :
    I 0 env M ∧ (∀ i env M, i < (Src.mk xs.length (stpC xs)).many → I i env M → ∃ d, (Src.mk xs.length (stpC xs)).stp i M = some (some d) ∧ Wp (g d env M) fun e1 M1 => Wp (f e1 M1) (kLoop (I (i + 1)) Q)) ∧ ∀ env M, I (Src.mk xs.length (stpC xs)).many env M → (Src.mk xs.length (stpC xs)).stp (Src.mk xs.length (stpC xs)).many M = some none ∧ Q (.nx env) M :=
  ⟨h0, fun i env M hi hh => ⟨xs[i]'hi, stpC_go (M := M) (List.getElem?_eq_getElem hi), h1 i _ env M (List.getElem?_eq_getElem hi) hh⟩, fun env M hh => ⟨stpC_end (M := M), h2 env M hh⟩⟩
/-- a for over a list that stays -/
theorem wq_forL {env : En} {M : Mem} {g : FG} {f : FS} {Q : QS} {xs : List Dv} {m : Nat} (I : Nat → En → Mem → Prop) (hm : ∀ i env M, I i env M → M[m]? = some (.lst xs)) (h0 : I 0 env M) (h1 : ∀ i d env M, xs[i]? = some d → I i env M → Wp (g d env M) fun e1 M1 => Wp (f e1 M1) (kLoop (I (i + 1)) Q)) (h2 : ∀ env M, I xs.length env M → Q (.nx env) M) :
    I 0 env M ∧ (∀ i env M, i < (Src.mk xs.length (stpL m)).many → I i env M → ∃ d, (Src.mk xs.length (stpL m)).stp i M = some (some d) ∧ Wp (g d env M) fun e1 M1 => Wp (f e1 M1) (kLoop (I (i + 1)) Q)) ∧ ∀ env M, I (Src.mk xs.length (stpL m)).many env M → (Src.mk xs.length (stpL m)).stp (Src.mk xs.length (stpL m)).many M = some none ∧ Q (.nx env) M :=
  ⟨h0, fun i env M hi hh => ⟨xs[i]'hi, stpL_go (hm i env M hh) (List.getElem?_eq_getElem hi), h1 i _ env M (List.getElem?_eq_getElem hi) hh⟩, fun env M hh => ⟨stpL_end (hm _ env M hh), h2 env M hh⟩⟩
section
variable {M : Mem} {k c n : Nat} {fs : List (Str × Dv)} {fld : Str} {y d : Dv} {xs : List Dv} {q : Mem → Prop}
/-- a cell written: the memory behind it by what is known -/
def kWr (n : Nat) (o : Ob) (q : Mem → Prop) (M : Mem) : Prop := ∀ M', M'[n]? = some o → Kp (fun m => m = n) M M' → M'.length = M.length → q M'
theorem k_wr {o : Ob} (h : ∀ M', M'[n]? = some o → Kp (fun m => m = n) M M' → M'.length = M.length → q M') : kWr n o q M := h
theorem k_putO (h : M[k]? = some (.ins c fs)) (hl : fs.length.blt 1000 = true) (hq : kWr k (.ins c (putD fld y fs)) q M) : kPut c fld y q (.loc k) M := k_put h hl (hq _ (at_set h) (.set fun _ => rfl) (by simp))
theorem k_setO {j : Nat} {i : Int} (hm : M[n]? = some (.lst xs)) (hj : ixN xs.length i = some j) (h : kWr n (.lst (xs.set j d)) q M) : kSet (.loc n) (.int i) d q M := k_set hm hj (h _ (at_set hm) (.set fun _ => rfl) (by simp))
theorem k_setNO {j : Nat} (hm : M[n]? = some (.lst xs)) (hj : j < xs.length) (h : kWr n (.lst (xs.set j d)) q M) : kSet (.loc n) (.int (j : Nat)) d q M := k_setN hm hj (h _ (at_set hm) (.set fun _ => rfl) (by simp))
theorem wq_append {x : Dv} {q : QE} (hm : M[n]? = some (.lst xs)) (h : xs.length < sizeLine) (k : kWr n (.lst (xs ++ [x])) (fun M' => q .non M') M) : Wp (appendD (.loc n) [x] M) q := wp_append hm h (k _ (at_set hm) (.set fun _ => rfl) (by simp))
end
end Zl

/-! text Y3 -/
namespace Zl
open PySem L2 PySem.Spec PyProof.Rows

/-! ## turn by turn, without an invariant -/
section
variable {env : En} {M : Mem} {g : FG} {f : FS} {it : Stp} {Q : QS} {k i n : Nat} {d : Dv} {ft : FT} {fe : FE} {fi : FI} {e0 : En} {q : QE} {vs : List Nat}
def kTurn (it : Stp) (g : FG) (f : FS) (k i : Nat) (Q : QS) : QS := fun fl M => match fl with
  | .nx e => Wp (loopF it g f k i e M) Q
  | .ct e => Wp (loopF it g f k i e M) Q
  | .bk e => Q (.nx e) M
  | .rt d => Q (.rt d) M
theorem kt_nx {e : En} (h : Wp (loopF it g f k i e M) Q) : kTurn it g f k i Q (.nx e) M := h
theorem kt_ct {e : En} (h : Wp (loopF it g f k i e M) Q) : kTurn it g f k i Q (.ct e) M := h
theorem kt_bk {e : En} (h : Q (.nx e) M) : kTurn it g f k i Q (.bk e) M := h
theorem kt_rt (h : Q (.rt d) M) : kTurn it g f k i Q (.rt d) M := h
theorem wu_go (h : it i M = some (some d)) (w : Wp (g d env M) fun e1 M1 => Wp (f e1 M1) (kTurn it g f k (i + 1) Q)) : Wp (loopF it g f (k + 1) i env M) Q := by
  unfold loopF
  simp only [h]
  refine wp_bnd (w.go fun e1 M1 w => wp_bnd (w.go fun fl M2 w => ?_))
  cases fl with
  | nx e => exact w
  | ct e => exact w
  | bk e => exact wp_ok w
  | rt d => exact wp_ok w
theorem wu_end (h : it i M = some none) (w : Q (.nx env) M) : Wp (loopF it g f k i env M) Q := by
  cases k with
  | zero => unfold loopF; simp only [h]; exact wp_ok w
  | succ k => unfold loopF; simp only [h]; exact wp_ok w
theorem wu_for (h : Wp (fi env M) fun src M1 => Wp (loopF src.stp g f src.many 0 env M1) Q) : Wp (fFor fi g f env M) Q := wp_bnd h
/-- a comprehension's turns -/
def Wc (r : Option Mem) (q : Mem → Prop) : Prop := ∃ M, r = some M ∧ q M
def kAcc (n : Nat) (y : Dv) (q : Mem → Prop) (M : Mem) : Prop := ∃ acc, M[n]? = some (.lst acc) ∧ acc.length < sizeLine ∧ kWr n (.lst (acc ++ [y])) q M
theorem k_acc {acc : List Dv} {y : Dv} {q : Mem → Prop} (h : M[n]? = some (.lst acc)) (hl : acc.length.blt 1000 = true) (w : kWr n (.lst (acc ++ [y])) q M) : kAcc n y q M :=
  ⟨acc, h, size_lt (by have := Nat.le_of_ble_eq_true hl; omega), w⟩
theorem wuc_go {qm : Mem → Prop} (h : it i M = some (some d)) (w : Wp (g d e0 M) fun e1 M1 => Wp (ft e1 M1) (kIf (fun M2 => bnd (fe e1 M2) fun y M3 => some (some y, M3)) (fun M2 => some (none, M2)) fun o M3 => match o with
      | some y => kAcc n y (fun M4 => Wc (compF it g ft fe e0 n k (i + 1) M4) qm) M3
      | none => Wc (compF it g ft fe e0 n k (i + 1) M3) qm)) : Wc (compF it g ft fe e0 n (k + 1) i M) qm := by
  obtain ⟨e1, M1, h1, b, M2, h2, w⟩ := w
  unfold compF
  simp only [h, h1]
  cases b with
  | false =>
    obtain ⟨o, M3, h3, w⟩ := w
    cases h3
    simp only [h2]
    exact w
  | true =>
    obtain ⟨o, M3, h3, w⟩ := w
    obtain ⟨y, M4, h4, h5⟩ := bnd_some h3
    cases h5
    obtain ⟨acc, w1, w2, w3⟩ := w
    simp only [h2, h4, w1, if_pos w2]
    exact w3 _ (at_set w1) (.set fun _ => rfl) (by simp)
theorem wuc_map {qm : Mem → Prop} (h : it i M = some (some d)) (w : Wp (g d e0 M) fun e1 M1 => Wp (fe e1 M1) fun y M3 => kAcc n y (fun M4 => Wc (compF it g fYes fe e0 n k (i + 1) M4) qm) M3) : Wc (compF it g fYes fe e0 n (k + 1) i M) qm :=
  wuc_go h (w.go fun e1 M1 w => wp_ok (by
    show Wp (bnd _ _) _
    exact wp_bnd (w.go fun y M3 w => wp_ok w)))
theorem wuc_end {qm : Mem → Prop} (h : it i M = some none) (w : qm M) : Wc (compF it g ft fe e0 n k i M) qm := by
  cases k with
  | zero => exact ⟨M, by unfold compF; simp only [h], w⟩
  | succ k => exact ⟨M, by unfold compF; simp only [h], w⟩
theorem wu_comp (h : Wp (fi env M) fun src M1 => kNew (.lst []) (fun n M2 => Wc (compF src.stp g ft fe (wipeE env vs) n src.many 0 M2) fun M3 => q (.loc n) M3) M1) : Wp (fComp fi vs g ft fe env M) q := by
  refine wp_bnd (h.go fun src M1 h => ?_)
  obtain ⟨M3, e, w⟩ := h _ _ rfl at_new (.app _) (by simp)
  show Wp (match compF _ _ _ _ _ _ _ _ _ with | some M2 => some (Dv.loc M1.length, M2) | none => none) q
  rw [e]; exact wp_ok w
end
section
variable {env : En} {M : Mem} {g : FG} {f : FS} {it : Stp} {Q : QS} {k m i n : Nat} {d : Dv} {fe : FE} {e0 : En}
theorem wv_map {qm : Mem → Prop} (hk : m = k + 1) (h : it i M = some (some d)) (w : Wp (g d e0 M) fun e1 M1 => Wp (fe e1 M1) fun y M3 => kAcc n y (fun M4 => Wc (compF it g fYes fe e0 n k (i + 1) M4) qm) M3) : Wc (compF it g fYes fe e0 n m i M) qm := by
  subst hk; exact wuc_map h w
theorem wv_go (hk : m = k + 1) (h : it i M = some (some d)) (w : Wp (g d env M) fun e1 M1 => Wp (f e1 M1) (kTurn it g f k (i + 1) Q)) : Wp (loopF it g f m i env M) Q := by
  subst hk; exact wu_go h w
end
/-! ## == by what is read -/
theorem wq_eqD {b : Bool} {x y : Dv} {M : Mem} {Q : QE} {p q : PyData} (hx : rd M deep x = some p) (hy : rd M deep y = some q) (sp : SeqAt.shaped p = true) (sq : SeqAt.shaped q = true)
    (k : Q (.bl (xor b (PyData.eqv p q))) M) : Wp (eqD b x y M) Q := by
  unfold eqD
  split
  · cases hx; cases hy
    refine wp_ok ?_
    exact k
  · cases hx; cases hy
    refine wp_ok ?_
    exact k
  · simp only [hx, hy]
    rw [if_pos ⟨sp, sq⟩]
    exact wp_ok k
theorem rd_loc {M : Mem} {n k : Nat} {xs : List Dv} {ps : List PyData} (h : M[k]? = some (.lst xs)) (hx : rdL (rd M n) xs = some ps) : rd M (n + 1) (.loc k) = some (.list ps) := by
  show (match M[k]? with | some (.lst xs) => (match rdL (rd M n) xs with | some ps => some (PyData.list ps) | none => none) | _ => none) = _
  rw [h]; simp only [hx]
theorem rd_tup {M : Mem} {n : Nat} {xs : List Dv} {ps : List PyData} (hx : rdL (rd M n) xs = some ps) : rd M (n + 1) (.tup xs) = some (.tuple ps) := by
  show (match rdL (rd M n) xs with | some ps => some (PyData.tuple ps) | none => none) = _
  rw [hx]
theorem rdL_nil {f : Dv → Option PyData} : rdL f [] = some [] := rfl
theorem rdL_cons {f : Dv → Option PyData} {x : Dv} {xs : List Dv} {p : PyData} {ps : List PyData} (h : f x = some p) (hs : rdL f xs = some ps) : rdL f (x :: xs) = some (p :: ps) := by
  unfold rdL; rw [h, hs]
theorem rd_bls {M : Mem} {n : Nat} : ∀ bs : List Bool, rdL (rd M n) (bs.map Dv.bl) = some (bs.map .bool)
  | [] => rfl
  | b :: bs => by
    rw [List.map_cons, List.map_cons]
    exact rdL_cons (by cases n <;> rfl) (rd_bls bs)
/-! ## for, by an invariant -/
def kFor (I : Nat → En → Mem → Prop) (g : FG) (f : FS) (env : En) (Q : QS) : Src → Mem → Prop := fun src M1 => I 0 env M1 ∧
      (∀ i env M, i < src.many → I i env M → ∃ d, src.stp i M = some (some d) ∧ Wp (g d env M) fun e1 M1 => Wp (f e1 M1) (kLoop (I (i + 1)) Q)) ∧
      ∀ env M, I src.many env M → src.stp src.many M = some none ∧ Q (.nx env) M
section
variable {env : En} {M : Mem} {g : FG} {f : FS} {Q : QS} {n m : Nat} {fi : FI} {xs : List Dv} {I : Nat → En → Mem → Prop}
theorem wq_for (I : Nat → En → Mem → Prop) (h : Wp (fi env M) (kFor I g f env Q)) : Wp (fFor fi g f env M) Q := wp_for I h
theorem k_forR (h0 : I 0 env M) (h1 : ∀ i env M, i < n → I i env M → Wp (g (.int (i : Nat)) env M) fun e1 M1 => Wp (f e1 M1) (kLoop (I (i + 1)) Q)) (h2 : ∀ env M, I n env M → Q (.nx env) M) : kFor I g f env Q (srcR 0 n) M := wq_forR I h0 h1 h2
theorem k_forT (h0 : I 0 env M) (h1 : ∀ i d env M, xs[i]? = some d → I i env M → Wp (g d env M) fun e1 M1 => Wp (f e1 M1) (kLoop (I (i + 1)) Q)) (h2 : ∀ env M, I xs.length env M → Q (.nx env) M) : kFor I g f env Q ⟨xs.length, stpC xs⟩ M := wq_forT I h0 h1 h2
theorem k_forL (hm : ∀ i env M, I i env M → M[m]? = some (.lst xs)) (h0 : I 0 env M) (h1 : ∀ i d env M, xs[i]? = some d → I i env M → Wp (g d env M) fun e1 M1 => Wp (f e1 M1) (kLoop (I (i + 1)) Q)) (h2 : ∀ env M, I xs.length env M → Q (.nx env) M) : kFor I g f env Q ⟨xs.length, stpL m⟩ M := wq_forL I hm h0 h1 h2
end
/-- both ways meet -/
theorem k_join {α : Type} {f g : Mem → Option (α × Mem)} {Q : α → Mem → Prop} {b : Bool} {M : Mem} (P : α → Mem → Prop) (h1 : b = true → Wp (f M) P) (h2 : b = false → Wp (g M) P) (h : ∀ a M', P a M' → Q a M') : kIf f g Q b M := by
  cases b with
  | true => exact (h1 rfl).go h
  | false => exact (h2 rfl).go h
end Zl

/-! text Y4 -/
namespace Zl
open PySem L2 PySem.Spec PyProof.Rows
theorem wq_addL {m n : Nat} {xs ys : List Dv} {M : Mem} {q : QE} (hm : M[m]? = some (.lst xs)) (hn : M[n]? = some (.lst ys)) (hl : xs.length + ys.length ≤ 16000000)
    (c : kNew (.lst (xs ++ ys)) (fun k M2 => q (.loc k) M2) M) : Wp (addD (.loc m) (.loc n) M) q := by
  refine wp_ev (a := .loc M.length) (M' := M ++ [.lst (xs ++ ys)]) ?_ (c _ _ rfl at_new (.app _) (by simp))
  unfold addD
  simp only [hm, hn]
  rw [if_pos (size_le hl)]
theorem wq_addT {xs ys : List Dv} {M : Mem} {q : QE} (h : xs.length + ys.length ≤ 16000000) (k : q (.tup (xs ++ ys)) M) : Wp (addD (.tup xs) (.tup ys) M) q := wp_addT (Nat.le_trans h (by decide)) k
theorem wq_lstT {xs : List Dv} {M : Mem} {q : QE} (c : kNew (.lst xs) (fun k M2 => q (.loc k) M2) M) : Wp (lstD [.tup xs] M) q :=
  wp_ev (a := .loc M.length) (M' := M ++ [.lst xs]) rfl (c _ _ rfl at_new (.app _) (by simp))
theorem wq_lstL {n : Nat} {xs : List Dv} {M : Mem} {q : QE} (hm : M[n]? = some (.lst xs)) (c : kNew (.lst xs) (fun k M2 => q (.loc k) M2) M) : Wp (lstD [.loc n] M) q := by
  refine wp_ev (a := .loc M.length) (M' := M ++ [.lst xs]) ?_ (c _ _ rfl at_new (.app _) (by simp))
  unfold lstD itemsD
  simp only [hm]
/-! zip, enumerate -/
def kZip (qi : Src → Mem → Prop) (d : Dv) : QE := fun e M => ∃ src, srcZ M d e = some src ∧ qi src M
theorem wq_zip {env : En} {M : Mem} {qi : Src → Mem → Prop} {fa fb : FE} (h : Wp (fa env M) fun d M1 => Wp (fb env M1) (kZip qi d)) : Wp (fZip fa fb env M) qi :=
  wp_bnd (h.go fun d M1 h => wp_bnd (h.go fun e M2 ⟨s, e1, k⟩ => by
    show Wp (match srcZ M2 d e with | some s => some (s, M2) | none => none) _
    rw [e1]; exact wp_ok k))
def stpZ (xs ys : List Dv) : Stp := fun i _ => some (zipAt xs ys i)
theorem k_zipT {xs ys : List Dv} {M : Mem} {qi : Src → Mem → Prop} (h : qi ⟨min xs.length ys.length, stpZ xs ys⟩ M) : kZip qi (.tup xs) (.tup ys) M := ⟨_, rfl, h⟩
theorem zip_at {xs ys : List Dv} {i : Nat} {x y : Dv} (h : xs[i]? = some x) (h' : ys[i]? = some y) : zipAt xs ys i = some (.pr [x, y]) := by unfold zipAt; rw [h, h']
theorem zip_end {xs ys : List Dv} : zipAt xs ys (min xs.length ys.length) = none := by
  unfold zipAt
  by_cases h : xs.length ≤ ys.length
  · rw [Nat.min_eq_left h, List.getElem?_eq_none (Nat.le_refl _)]
  · rw [Nat.min_eq_right (by omega), List.getElem?_eq_none (l := ys) (Nat.le_refl _)]
    cases xs[ys.length]? <;> rfl
def kEnum (qi : Src → Mem → Prop) : QE := fun d M => ∃ src, srcE M d = some src ∧ qi src M
theorem wq_enum {env : En} {M : Mem} {qi : Src → Mem → Prop} {fa : FE} (h : Wp (fa env M) (kEnum qi)) : Wp (fEnum fa env M) qi := wp_enum h
def stpE (xs : List Dv) : Stp := fun i _ => if i ≤ xs.length then some (pairs xs i) else none
theorem k_enumT {xs : List Dv} {M : Mem} {qi : Src → Mem → Prop} (h : qi ⟨xs.length, stpE xs⟩ M) : kEnum qi (.tup xs) M := ⟨_, rfl, h⟩
theorem stpE_go {xs : List Dv} {i : Nat} {x : Dv} {M : Mem} (h : xs[i]? = some x) : stpE xs i M = some (some (.pr [.int (i : Nat), x])) := by
  have := (List.getElem?_eq_some_iff.mp h).1
  unfold stpE pairs
  rw [if_pos (by omega), h]; rfl
theorem stpE_end {xs : List Dv} {M : Mem} : stpE xs xs.length M = some none := by
  unfold stpE pairs
  rw [if_pos (Nat.le_refl _), List.getElem?_eq_none (Nat.le_refl _)]; rfl
theorem k_forE {env : En} {M : Mem} {g : FG} {f : FS} {Q : QS} {xs : List Dv} {I : Nat → En → Mem → Prop} (h0 : I 0 env M) (h1 : ∀ i d env M, xs[i]? = some d → I i env M → Wp (g (.pr [.int (i : Nat), d]) env M) fun e1 M1 => Wp (f e1 M1) (kLoop (I (i + 1)) Q)) (h2 : ∀ env M, I xs.length env M → Q (.nx env) M) : kFor I g f env Q ⟨xs.length, stpE xs⟩ M :=
  ⟨h0, fun i env M hi hh => ⟨_, stpE_go (M := M) (List.getElem?_eq_getElem hi), h1 i _ env M (List.getElem?_eq_getElem hi) hh⟩, fun env M hh => ⟨stpE_end (M := M), h2 env M hh⟩⟩
/-! ## comprehensions by any target: what each item gives -/
/-- [e for t in xs if c], nothing else written -/
theorem wq_lcG {fi : FI} {g : FG} {ft : FT} {fe : FE} {env : En} {M : Mem} {q : QE} {vs : List Nat} (p : Nat → Bool) (φ : Nat → Dv)
    (h : Wp (fi env M) fun src M1 => src.many ≤ 16000000 ∧ (∀ i M', Kp NoW M1 M' → i < src.many → ∃ d, src.stp i M' = some (some d) ∧ Wp (g d (wipeE env vs) M') fun e1 M2 => Wp (ft e1 M2) fun b M3 => b = p i ∧ Kp NoW M' M3 ∧ (p i = true → Wp (fe e1 M3) fun y M4 => y = φ i ∧ Kp NoW M3 M4)) ∧
      (∀ M', Kp NoW M1 M' → src.stp src.many M' = some none) ∧
      ∀ n M', n = M1.length → M1.length < M'.length → Kp NoW M1 M' → M'[n]? = some (.lst (((List.range src.many).filter p).map φ)) → q (.loc n) M') : Wp (fComp fi vs g ft fe env M) q := by
  refine wp_bnd (h.go fun src M1 ⟨h0, h1, h2, h3⟩ => ?_)
  have key : ∃ M', compF src.stp g ft fe (wipeE env vs) M1.length src.many 0 (M1 ++ [.lst []]) = some M' ∧ q (.loc M1.length) M' := by
    refine wp_compI (fun i acc M' => i ≤ src.many ∧ acc = ((List.range i).filter p).map φ ∧ Kp NoW M1 M' ∧ M'[M1.length]? = some (.lst acc)) src.many (fun i acc M' hh => hh.2.2.2) ?_ ?_ src.many 0 [] _ (by omega) ⟨Nat.zero_le _, rfl, .app _, at_new⟩
    · rintro i acc M' hi ⟨a0, a1, a2, a4⟩
      obtain ⟨d, e1, w⟩ := h1 i M' a2 hi
      refine ⟨d, e1, ?_⟩
      obtain ⟨env1, M2, w1, w⟩ := w
      refine ⟨env1, M2, w1, ?_⟩
      refine w.go fun b M3 ⟨b1, b2, b3⟩ => ?_
      have er : (List.range (i + 1)) = List.range i ++ [i] := List.range_succ
      cases hb : p i with
      | false =>
        rw [b1, hb]
        refine ⟨by omega, ?_, a2.tr b2, b2.at a4 id⟩
        rw [er, List.filter_append, List.filter_cons, if_neg (by rw [hb]; decide)]; simpa using a1
      | true =>
        rw [b1, hb]
        refine (b3 hb).go fun y M4 ⟨c1, c2⟩ => ?_
        have d1 : M4[M1.length]? = some (.lst acc) := c2.at (b2.at a4 id) id
        refine ⟨acc, d1, ?_, by omega, ?_, ((a2.tr b2).tr c2).trans (Kp.set (W := fun n => n = M1.length) fun _ => rfl) ?_, at_set d1⟩
        · rw [a1, List.length_map]
          have := List.length_filter_le p (List.range i)
          rw [List.length_range] at this
          exact size_lt (by omega)
        · rw [er, List.filter_append, List.filter_cons, if_pos hb, a1, c1]; simp
        · intro n hn w; omega
    · rintro acc M' ⟨a0, a1, a2, a4⟩
      refine ⟨h2 M' a2, ?_⟩
      subst a1
      exact h3 _ M' rfl (lt_of a4) a2 a4
  obtain ⟨M', e, k⟩ := key
  show Wp (match compF _ _ _ _ _ _ _ _ _ with | some M2 => some (Dv.loc M1.length, M2) | none => none) q
  rw [e]
  exact wp_ok k
end Zl

/-! text Y5 -/
namespace Zl
open PySem L2 PySem.Spec PyProof.Rows
/-! ## data that is small: depth at most k, weight at most n -/
structure Sm (k n : Nat) (p : PyData) : Prop where
  lay : p.canLay0 = true
  dep : p.depth ≤ k
  sho : p.showable = true
  dic : p.hasDict = false
  sht : p.leavesShort 12 = true
  blk : p.bulk ≤ n
structure SmA (k n : Nat) (ps : List PyData) : Prop where
  lay : PyData.canLayAll0 ps = true
  dep : PyData.depthAll ps ≤ k
  sho : PyData.showableAll ps = true
  dic : PyData.hasDictAll ps = false
  sht : PyData.leavesShortAll 12 ps = true
  blk : PyData.bulkAll ps ≤ n
section
variable {k n m : Nat} {p : PyData} {ps : List PyData}
theorem smA_nil : SmA k n [] := ⟨rfl, Nat.zero_le _, rfl, rfl, rfl, Nat.zero_le _⟩
theorem smA_cons (h : Sm k n p) (hs : SmA k m ps) : SmA k (n + 1 + m) (p :: ps) :=
  ⟨by unfold PyData.canLayAll0; rw [h.lay, hs.lay]; rfl, by unfold PyData.depthAll; exact Nat.max_le.mpr ⟨h.dep, hs.dep⟩, by unfold PyData.showableAll; rw [h.sho, hs.sho]; rfl,
    by unfold PyData.hasDictAll; rw [h.dic, hs.dic]; rfl, by unfold PyData.leavesShortAll; rw [h.sht, hs.sht]; rfl, by unfold PyData.bulkAll; have := h.blk; have := hs.blk; omega⟩
theorem SmA.mono {k' n' : Nat} (h : SmA k n ps) (hk : k ≤ k') (hn : n ≤ n') : SmA k' n' ps := ⟨h.lay, Nat.le_trans h.dep hk, h.sho, h.dic, h.sht, Nat.le_trans h.blk hn⟩
theorem Sm.mono {k' n' : Nat} (h : Sm k n p) (hk : k ≤ k') (hn : n ≤ n') : Sm k' n' p := ⟨h.lay, Nat.le_trans h.dep hk, h.sho, h.dic, h.sht, Nat.le_trans h.blk hn⟩
theorem smA_all : ∀ {ps : List PyData}, (∀ p ∈ ps, Sm k n p) → SmA k ((n + 1) * ps.length) ps
  | [], _ => smA_nil
  | p :: ps, h => (smA_cons (h p (by simp)) (smA_all fun q hq => h q (by simp [hq]))).mono (Nat.le_refl _) (by rw [List.length_cons, Nat.mul_succ]; omega)
theorem sm_list (h : SmA k n ps) : Sm (k + 1) n (.list ps) :=
  ⟨by unfold PyData.canLay0; exact h.lay, by unfold PyData.depth; have := h.dep; omega, by unfold PyData.showable; exact h.sho, by unfold PyData.hasDict; exact h.dic, by unfold PyData.leavesShort; exact h.sht, by unfold PyData.bulk; exact h.blk⟩
theorem sm_tuple (h : SmA k n ps) : Sm (k + 1) n (.tuple ps) :=
  ⟨by unfold PyData.canLay0; exact h.lay, by unfold PyData.depth; have := h.dep; omega, by unfold PyData.showable; exact h.sho, by unfold PyData.hasDict; exact h.dic, by unfold PyData.leavesShort; exact h.sht, by unfold PyData.bulk; exact h.blk⟩
theorem sm_bool {b : Bool} : Sm k n (.bool b) := ⟨rfl, Nat.zero_le _, rfl, rfl, rfl, Nat.zero_le _⟩
theorem sm_none : Sm k n .none := ⟨rfl, Nat.zero_le _, rfl, rfl, rfl, Nat.zero_le _⟩
theorem nat_short : ∀ j : Nat, j ≤ 3000 → (PyData.shown (.int (j : Nat))).length ≤ 12 := by decide +kernel
theorem sm_nat {j : Nat} (h : j ≤ 3000) : Sm k n (.int (j : Nat)) :=
  ⟨rfl, Nat.zero_le _, by
    unfold PyData.showable
    rw [decide_eq_true_eq]
    have : ((j : Nat) : Int).natAbs = j := Int.natAbs_natCast j
    rw [this]
    by_cases e : j = 0
    · rw [e]; decide
    · have := (Nat.log2_lt e (k := 1920)).mpr (Nat.lt_of_le_of_lt h (Nat.lt_of_lt_of_le (by decide : 3000 < 2 ^ 12) (Nat.pow_le_pow_right (by decide) (by decide))))
      exact this, rfl, by unfold PyData.leavesShort; exact decide_eq_true (nat_short j h), Nat.zero_le _⟩
theorem Sm.shaped (h : Sm k n p) (hk : k ≤ 60) : SeqAt.shaped p = true := by
  unfold SeqAt.shaped
  rw [h.lay, Bool.true_and, decide_eq_true_eq]
  have := h.dep; omega
/-- repr, == of small data -/
theorem wq_repr {x : Dv} {M : Mem} {q : QE} (hx : (match x with | .tup _ => true | .rol _ => true | .loc _ => true | _ => false) = true) (hr : rd M deep x = some p) (h : Sm k n p) (hk : k ≤ 60) (hn : n ≤ 1000000) (c : q (.str p.shown) M) : Wp (reprE [x] M) q := by
  have ok : p.showable = true ∧ p.hasDict = false ∧ p.depth ≤ 60 ∧ p.shown.length ≤ sizeLine := by
    refine ⟨h.sho, h.dic, Nat.le_trans h.dep hk, ?_⟩
    have e := PyData.shown_le_bulk 12 (by decide) p h.sht
    have := h.blk
    exact Nat.le_trans e (by show _ ≤ 2 ^ 24; omega)
  refine wp_ev ?_ c
  cases x with
  | tup xs => show reprD [.tup xs] M = _; unfold reprD; simp only [hr, if_pos ok]
  | rol xs => show reprD [.rol xs] M = _; unfold reprD; simp only [hr, if_pos ok]
  | loc m => show reprD [.loc m] M = _; unfold reprD; simp only [hr, if_pos ok]
  | _ => cases hx
theorem wq_reprB {b : Bool} {M : Mem} {q : QE} (c : q (.str (if b then "True" else "False")) M) : Wp (reprE [.bl b] M) q := wp_ok c
theorem wq_reprN {M : Mem} {q : QE} (c : q (.str "None") M) : Wp (reprE [.non] M) q := wp_ok c
theorem wq_eqS {b : Bool} {x y : Dv} {M : Mem} {Q : QE} {p q : PyData} {k' n' : Nat} (hx : rd M deep x = some p) (hy : rd M deep y = some q) (sp : Sm k n p) (sq : Sm k' n' q) (hk : k ≤ 60) (hk' : k' ≤ 60) (c : Q (.bl (xor b (PyData.eqv p q))) M) : Wp (eqD b x y M) Q :=
  wq_eqD hx hy (sp.shaped hk) (sq.shaped hk') c
end
/-! what is read of lists of bools, of numbers -/
theorem smA_bools {k : Nat} (bs : List Bool) : SmA k bs.length (bs.map .bool) :=
  (smA_all (k := k) (n := 0) fun p hp => by obtain ⟨b, _, rfl⟩ := List.mem_map.mp hp; exact sm_bool).mono (Nat.le_refl _) (by simp)
def natsP (ns : List Nat) : List PyData := ns.map fun n => .int (n : Nat)
theorem smA_nats {k : Nat} {ns : List Nat} (h : ∀ n ∈ ns, n ≤ 3000) : SmA k ns.length (natsP ns) :=
  (smA_all (k := k) (n := 0) fun p hp => by obtain ⟨j, hj, rfl⟩ := List.mem_map.mp hp; exact sm_nat (h j hj)).mono (Nat.le_refl _) (by simp [natsP])
theorem rd_nats {M : Mem} {n : Nat} : ∀ ns : List Nat, rdL (rd M n) (ns.map fun j => Dv.int (j : Nat)) = some (natsP ns)
  | [] => rfl
  | j :: ns => rdL_cons (by cases n <;> rfl) (rd_nats ns)
theorem eqvA_bools : ∀ as bs : List Bool, PyData.eqvAll (as.map .bool) (bs.map .bool) = (as == bs)
  | [], [] => rfl
  | [], _ :: _ => rfl
  | _ :: _, [] => rfl
  | a :: as, b :: bs => by
    rw [List.map_cons, List.map_cons]
    unfold PyData.eqvAll
    rw [eqvA_bools as bs]
    cases a <;> cases b <;> rfl
theorem eqvA_nats : ∀ as bs : List Nat, PyData.eqvAll (natsP as) (natsP bs) = (as == bs)
  | [], [] => rfl
  | [], _ :: _ => rfl
  | _ :: _, [] => rfl
  | a :: as, b :: bs => by
    unfold natsP
    rw [List.map_cons, List.map_cons]
    unfold PyData.eqvAll
    have := eqvA_nats as bs
    unfold natsP at this
    rw [this]
    have e : PyData.eqv (.int (a : Nat)) (.int (b : Nat)) = (a == b) := by
      show ((a : Int) == (b : Int)) = _
      rw [Bool.eq_iff_iff, beq_iff_eq, beq_iff_eq]
      exact Int.ofNat_inj
    rw [e]; rfl
end Zl

/-! text Y6 -/
namespace Zl
open PySem L2 PySem.Spec PyProof.Rows
theorem wr_lstT {xs : List Dv} {M : Mem} {q : QE} (c : kNew (.lst xs) (fun k M2 => q (.loc k) M2) M) : Wp (lstE [.tup xs] M) q := wq_lstT c
theorem wr_lstL {n : Nat} {xs : List Dv} {M : Mem} {q : QE} (hm : M[n]? = some (.lst xs)) (c : kNew (.lst xs) (fun k M2 => q (.loc k) M2) M) : Wp (lstE [.loc n] M) q := wq_lstL hm c
theorem wr_lstS {x : Str} {M : Mem} {q : QE} (h : x.cps.size ≤ sizeLine) (c : kNew (.lst (signsD x)) (fun k M2 => q (.loc k) M2) M) : Wp (lstE [.str x] M) q :=
  wp_ev (a := .loc M.length) (M' := M ++ [.lst (signsD x)]) (by unfold lstE; simp only; rw [if_pos h]) (c _ _ rfl at_new (.app _) (by simp))
/-! a text walked -/
def stpS (x : Str) : Stp := fun i _ => some (x.cps[i]?.map fun c => .str ⟨#[c]⟩)
theorem k_srcS {x : Str} {M : Mem} {qi : Src → Mem → Prop} (hq : qi ⟨x.cps.size, stpS x⟩ M) : kSrc qi (.str x) M := ⟨_, rfl, hq⟩
theorem stpS_at {x : Str} {i : Nat} {M : Mem} : stpS x i M = some (signsD x)[i]? := by
  unfold stpS signsD
  rw [List.getElem?_map, Array.getElem?_toList]
theorem signs_len {x : Str} : (signsD x).length = x.cps.size := by simp [signsD]
theorem k_forS {env : En} {M : Mem} {g : FG} {f : FS} {Q : QS} {x : Str} {I : Nat → En → Mem → Prop} (h0 : I 0 env M) (h1 : ∀ i d env M, (signsD x)[i]? = some d → I i env M → Wp (g d env M) fun e1 M1 => Wp (f e1 M1) (kLoop (I (i + 1)) Q)) (h2 : ∀ env M, I x.cps.size env M → Q (.nx env) M) : kFor I g f env Q ⟨x.cps.size, stpS x⟩ M :=
  ⟨h0, fun i env M hi hh => by
    have hi' : i < (signsD x).length := by rw [signs_len]; exact hi
    exact ⟨_, by show stpS x i M = _; rw [stpS_at, List.getElem?_eq_getElem hi'], h1 i _ env M (List.getElem?_eq_getElem hi') hh⟩, fun env M hh => ⟨by show stpS x x.cps.size M = _; rw [stpS_at, List.getElem?_eq_none (by rw [signs_len]; exact Nat.le_refl _)], h2 env M hh⟩⟩
theorem k_mapS {fe : FE} {env : En} {v : Nat} {vs : List Nat} {φ : Dv → Dv} {q : QE} {x : Str} {M : Mem} (hl : x.cps.size ≤ sizeLine) (he : ∀ y ∈ signsD x, ∀ M', Kp NoW M M' → Wp (fe ((wipeE env vs).set v (some y)) M') fun y' M3 => y' = φ y ∧ Kp NoW M' M3)
    (hq : ∀ n M', n = M.length → M.length < M'.length → Kp NoW M M' → M'[n]? = some (.lst ((signsD x).map φ)) → q (.loc n) M') : kMap fe env v vs φ q ⟨x.cps.size, stpS x⟩ M := ⟨signsD x, signs_len.symm, by rw [signs_len]; exact hl, fun _ M' _ _ => stpS_at (M := M'), he, hq⟩
/-! name += e -/
theorem wp_aug {env : En} {M : Mem} {i : Nat} {h : Int → Int → Int} {f : FE} {Q : QS} {a : Int} (he : env[i]? = some (some (.int a))) (k : Wp (f env M) (kInt fun b M1 => Q (.nx (env.set i (some (.int (h a b))))) M1)) : Wp (fAug i h f env M) Q := by
  unfold fAug
  simp only [he]
  refine wp_bnd (k.go fun d M1 ⟨b, e, q⟩ => ?_)
  subst e
  exact wp_ok q
end Zl

/-! text Y7 -/
namespace Zl
open PySem L2 PySem.Spec PyProof.Rows
/-! ## running dicts -/
theorem valD_put {kvs : List (Key × Dv)} {k k' : Key} {v : Dv} : valD (putDk kvs k v) k' = if k = k' then some v else valD kvs k' := by
  unfold putDk
  by_cases h : (kvs.any fun kv => decide (kv.1 = k)) = true
  · rw [if_pos h]
    induction kvs with
    | nil => cases h
    | cons p kvs ih =>
      rw [List.map_cons]
      unfold valD
      rw [List.find?_cons, List.find?_cons]
      by_cases e : p.1 = k
      · rw [if_pos e]
        by_cases e2 : k = k'
        · rw [if_pos e2]
          have : decide ((p.1, v).1 = k') = true := decide_eq_true (e.trans e2)
          rw [this]; rfl
        · rw [if_neg e2]
          have a1 : decide ((p.1, v).1 = k') = false := decide_eq_false (fun z => e2 (e.symm.trans z))
          have a2 : decide (p.1 = k') = false := decide_eq_false (fun z => e2 (e.symm.trans z))
          rw [a1]
          show Option.map _ (List.find? _ (List.map _ kvs)) = Option.map _ (List.find? _ kvs)
          by_cases h2 : (kvs.any fun kv => decide (kv.1 = k)) = true
          · have := ih h2; rw [if_neg e2] at this; exact this
          · have hm : (kvs.map fun kv => if kv.1 = k then (kv.1, v) else kv) = kvs := by
              refine (List.map_congr_left fun x hx => ?_).trans (List.map_id kvs)
              rw [if_neg]; rfl
              intro z
              exact h2 (List.any_eq_true.mpr ⟨x, hx, decide_eq_true z⟩)
            rw [hm]
      · rw [if_neg e]
        have h2 : (kvs.any fun kv => decide (kv.1 = k)) = true := by
          rw [List.any_cons, decide_eq_false e, Bool.false_or] at h; exact h
        have i := ih h2
        unfold valD at i
        by_cases e3 : p.1 = k'
        · rw [decide_eq_true e3]
          rw [if_neg (fun z => e (e3.trans z.symm))]
        · rw [decide_eq_false e3]
          exact i
  · rw [if_neg h]
    unfold valD
    rw [List.find?_append]
    by_cases e2 : k = k'
    · subst e2
      rw [if_pos rfl]
      have : kvs.find? (fun kv => decide (kv.1 = k)) = none := by
        rw [List.find?_eq_none]
        intro x hx z
        exact h (List.any_eq_true.mpr ⟨x, hx, z⟩)
      rw [this]; simp
    · rw [if_neg e2]
      have : [(k, v)].find? (fun kv => decide (kv.1 = k')) = none := by simp [e2]
      rw [this, Option.or_none]
theorem putDk_len {kvs : List (Key × Dv)} {k : Key} {v : Dv} : (putDk kvs k v).length ≤ kvs.length + 1 := by
  unfold putDk
  split <;> simp
section
variable {M : Mem} {n : Nat} {kvs : List (Key × Dv)} {k : Key} {env : En}
theorem wq_dnew {q : QE} (h : kNew (.dct []) (fun n M2 => q (.loc n) M2) M) : Wp (fDNew env M) q :=
  wp_ev (a := .loc M.length) (M' := M ++ [.dct []]) rfl (h _ _ rfl at_new (.app _) (by simp))
theorem k_setDk {i d : Dv} {q : Mem → Prop} (hm : M[n]? = some (.dct kvs)) (hk : keyD i = some k) (hl : kvs.length < sizeLine) (h : kWr n (.dct (putDk kvs k d)) q M) : kSet (.loc n) i d q M :=
  ⟨_, by unfold setE; simp only [hm, hk, if_pos hl], h _ (at_set hm) (.set fun _ => rfl) (by simp)⟩
theorem wq_dget {fo fe : FE} {q : QE} (h : Wp (fo env M) fun d M1 => ∃ m kv1, d = .loc m ∧ M1[m]? = some (.dct kv1) ∧ Wp (fe env M1) fun y M2 => ∃ kv k, M2[m]? = some (.dct kv) ∧ keyD y = some k ∧ q ((valD kv k).getD .non) M2) : Wp (fDGet fo fe env M) q := by
  unfold fDGet
  refine wp_bnd (h.go ?_)
  rintro d M1 ⟨m, kv1, rfl, h1, w⟩
  simp only [h1]
  refine wp_bnd (w.go ?_)
  rintro y M2 ⟨kv, k, h2, h3, h4⟩
  simp only [h2, h3]
  exact wp_ok h4
theorem wq_rng3 {fa fb fc : FE} {qi : Src → Mem → Prop} (h : Wp (fa env M) fun d M1 => Wp (fb env M1) fun d2 M2 => Wp (fc env M2) fun d3 M3 => ∃ i j : Int, d = .int i ∧ d2 = .int j ∧ d3 = .int (-1) ∧ -(2 ^ 62) ≤ i ∧ i < 2 ^ 62 ∧ -(2 ^ 62) ≤ j ∧ j < 2 ^ 62 ∧ qi (srcC i (-1) (i - j).toNat) M3) : Wp (fRng3 fa fb fc env M) qi := by
  unfold fRng3
  refine wp_bnd (h.go fun d M1 w => wp_bnd (w.go fun d2 M2 w => wp_bnd (w.go ?_)))
  rintro d3 M3 ⟨i, j, rfl, rfl, rfl, h1, h2, h3, h4, h5⟩
  simp only [h1, h2, h3, h4, and_self, if_true]
  exact wp_ok h5
/-- a for that counts n - 1, .., 0 -/
theorem k_forD {g : FG} {f : FS} {Q : QS} {I : Nat → En → Mem → Prop} (h0 : I 0 env M) (h1 : ∀ i t env M, t + i + 1 = n → I i env M → Wp (g (.int (t : Nat)) env M) fun e1 M1 => Wp (f e1 M1) (kLoop (I (i + 1)) Q)) (h2 : ∀ env M, I n env M → Q (.nx env) M) : kFor I g f env Q (srcC ((n : Int) - 1) (-1) ((n : Int) - 1 - (-1)).toNat) M := by
  have e : ((n : Int) - 1 - (-1)).toNat = n := by omega
  rw [e]
  refine ⟨h0, fun i env M hi hh => ?_, fun env M hh => ⟨?_, h2 env M hh⟩⟩
  · have hi' : i < n := hi
    refine ⟨.int ((n - 1 - i : Nat) : Int), ?_, h1 i (n - 1 - i) env M (by omega) hh⟩
    show (if i < n then some (some (Dv.int ((n : Int) - 1 + i * (-1)))) else some none) = _
    rw [if_pos hi']
    congr 3
    omega
  · show (if n < n then _ else some none) = _
    rw [if_neg (Nat.lt_irrefl n)]
end
end Zl

/-! text Y8 -/
namespace Zl
open PySem L2 PySem.Spec PyProof.Rows
section
variable {env : En} {M : Mem} {Q : QS} {q : QE} {fo fv fa : FE} {c np : Nat} {fld : Str} {F : FF} {h : Int → Int → Int}
def kFA (c : Nat) (fld : Str) (h : Int → Int → Int) (fv : FE) (env : En) (q : Mem → Prop) : QE := fun d M1 => ∃ n fs i, d = .loc n ∧ M1[n]? = some (.ins c fs) ∧ fs.lookup fld = some (.int i) ∧ Wp (fv env M1) fun y M2 => ∃ j fs2, y = .int j ∧ M2[n]? = some (.ins c fs2) ∧ fs2.length < 1000 ∧ kWr n (.ins c (putD fld (.int (h i j)) fs2)) q M2
theorem wq_fldaug (k : Wp (fo env M) (kFA c fld h fv env fun M3 => Q (.nx env) M3)) : Wp (fFldAug c fld h fo fv env M) Q :=
  wp_bnd (k.go fun d M1 ⟨n, fs, i, e, h1, h2, h3⟩ => by
    subst e
    show Wp (match M1[n]? with | some (.ins c' fs) => if c' = c then match fs.lookup fld with | some (.int i) => bnd (fv env M1) _ | _ => none else none | _ => none) _
    simp only [h1, if_true, h2]
    refine wp_bnd (h3.go fun y M2 ⟨j, fs2, e, g1, g2, g3⟩ => ?_)
    subst e
    show Wp (match M2[n]? with | some (.ins c2 fs2) => if c2 = c ∧ fs2.length < 1000 then some (Fl.nx env, M2.set n (.ins c (putD fld (.int (h i j)) fs2))) else none | _ => none) _
    simp only [g1, g2, and_self, if_true]
    exact wp_ok (g3 _ (at_set g1) (.set fun _ => rfl) (by simp)))
theorem wq_prop (k : Wp (fo env M) fun d M1 => (isIns c fld d M1 = true ∧ 1 = np) ∧ Wp (F [d] M1) q) : Wp (fProp c fld np F fo env M) q :=
  wp_bnd (k.go fun d M1 k => by
    show Wp (if _ then _ else _) _
    rw [if_pos k.1]; exact k.2)
theorem wq_rngAB {fa fb : FE} {qi : Src → Mem → Prop} (h : Wp (fa env M) fun d M1 => Wp (fb env M1) fun d2 M2 => ∃ i j : Int, d = .int i ∧ d2 = .int j ∧ -(2 ^ 62) ≤ i ∧ i < 2 ^ 62 ∧ -(2 ^ 62) ≤ j ∧ j < 2 ^ 62 ∧ qi (srcR i (j - i).toNat) M2) : Wp (fRng2 fa fb env M) qi := by
  unfold fRng2
  refine wp_bnd (h.go fun d M1 w => wp_bnd (w.go ?_))
  rintro d2 M2 ⟨i, j, rfl, rfl, h1, h2, h3, h4, h5⟩
  simp only [h1, h2, h3, h4, and_self, if_true]
  exact wp_ok h5
theorem wq_setT {xs : List Str} {M : Mem} {q : QE} (hl : xs.length < 4000) (k : kNew (.sk (dedS xs)) (fun n M2 => q (.loc n) M2) M) : Wp (setOfE [.tup (xs.map .str)] M) q := by
  refine wp_ev (a := .loc M.length) (M' := M ++ [.sk (dedS xs)]) ?_ (k _ _ rfl at_new (.app _) (by simp))
  unfold setOfE
  simp only [strsOf_map, hl, if_true]
theorem wq_lenSk {n : Nat} {xs : List Str} {M : Mem} {q : QE} (hm : M[n]? = some (.sk xs)) (k : q (.int (xs.length : Nat)) M) : Wp (lenE [.loc n] M) q := by
  refine wp_ev ?_ k
  unfold lenE
  simp only [hm]
theorem wq_sortR (k : Wp (fa env M) fun d M1 => ∃ n is, d = .loc n ∧ M1[n]? = some (.lst (List.map .int is)) ∧ downB is = true ∧ kNew (.lst (List.map .int is)) (fun m M2 => q (.loc m) M2) M1) : Wp (fSortR fa env M) q :=
  wp_bnd (k.go fun d M1 ⟨n, is, e, h1, h2, h3⟩ => by
    subst e
    have hi : ∀ is : List Int, intsOf (is.map .int) = some is := fun is => by
      induction is with
      | nil => rfl
      | cons i is ih =>
        show (match intsOf (is.map .int) with | some ys => some (i :: ys) | none => none) = _
        rw [ih]
    refine ⟨.loc M1.length, M1 ++ [.lst (List.map .int is)], ?_, h3 _ _ rfl at_new (.app _) (by simp)⟩
    simp only [h1, hi, h2, if_true])
end
def stpEM (n : Nat) : Stp := fun i M => match M[n]? with
  | some (.lst xs) => some (pairs xs i)
  | _ => none
theorem k_enumM {n : Nat} {xs : List Dv} {M : Mem} {qi : Src → Mem → Prop} (hm : M[n]? = some (.lst xs)) (h : qi ⟨xs.length, stpEM n⟩ M) : kEnum qi (.loc n) M := by
  refine ⟨⟨xs.length, stpEM n⟩, ?_, h⟩
  unfold srcE
  simp only [hm]
  rfl
theorem stpEM_at {n i : Nat} {xs : List Dv} {M : Mem} (hm : M[n]? = some (.lst xs)) : stpEM n i M = some (pairs xs i) := by
  unfold stpEM; simp only [hm]
theorem k_forEM {env : En} {M : Mem} {g : FG} {f : FS} {Q : QS} {n : Nat} {xs : List Dv} {I : Nat → En → Mem → Prop} (hm : ∀ i env M, I i env M → M[n]? = some (.lst xs)) (h0 : I 0 env M) (h1 : ∀ i d env M, xs[i]? = some d → I i env M → Wp (g (.pr [.int (i : Nat), d]) env M) fun e1 M1 => Wp (f e1 M1) (kLoop (I (i + 1)) Q)) (h2 : ∀ env M, I xs.length env M → Q (.nx env) M) : kFor I g f env Q ⟨xs.length, stpEM n⟩ M :=
  ⟨h0, fun i env M hi hh => ⟨_, by show stpEM n i M = _; rw [stpEM_at (hm i env M hh)]; unfold pairs; rw [List.getElem?_eq_getElem hi]; rfl, h1 i _ env M (List.getElem?_eq_getElem hi) hh⟩,
    fun env M hh => ⟨by show stpEM n xs.length M = _; rw [stpEM_at (hm _ env M hh)]; unfold pairs; rw [List.getElem?_eq_none (Nat.le_refl _)]; rfl, h2 env M hh⟩⟩
end Zl

/-! text Y9 -/
namespace Zl
open PySem L2 PySem.Spec PyProof.Rows
section
variable {env : En} {M : Mem} {q : QE} {Q : QS}
theorem ws_lstT {xs : List Dv} (c : kNew (.lst xs) (fun k M2 => q (.loc k) M2) M) : Wp (lstF [.tup xs] M) q := wq_lstT c
theorem ws_lstL {n : Nat} {xs : List Dv} (hm : M[n]? = some (.lst xs)) (c : kNew (.lst xs) (fun k M2 => q (.loc k) M2) M) : Wp (lstF [.loc n] M) q := by
  have : lstF [.loc n] M = lstE [.loc n] M := by unfold lstF; simp only [hm]
  rw [this]; exact wr_lstL hm c
theorem wq_lstK {n : Nat} {kvs : List (Key × Dv)} (hm : M[n]? = some (.dct kvs)) (hl : kvs.length ≤ 1000) (c : kNew (.lst (keysDv kvs)) (fun k M2 => q (.loc k) M2) M) : Wp (lstF [.loc n] M) q := by
  refine wp_ev (a := .loc M.length) (M' := M ++ [.lst (keysDv kvs)]) ?_ (c _ _ rfl at_new (.app _) (by simp))
  unfold lstF
  simp only [hm, if_pos hl]
/-- o.f = d, in a target -/
theorem wq_gFld {qe : En → Mem → Prop} {c : Nat} {fld : Str} {fo : FE} {d : Dv} (h : Wp (fo env M) (kPut c fld d fun M' => qe env M')) : Wp (gFld c fld fo d env M) qe := by
  unfold gFld
  refine wp_bnd (h.go ?_)
  rintro _ M1 ⟨k, fs, rfl, h1, h2, h3⟩
  simp only [h1, h2, and_self, if_true]
  exact wp_ok h3
/-- for k in a dict -/
theorem wq_forK {k n : Nat} {g : FG} {f : FS} {kvs : List (Key × Dv)} (hn : env[k]? = some (some (.loc n))) (hm : M[n]? = some (.dct kvs)) (I : Nat → En → Mem → Prop) (h0 : I 0 env (M.set n .lck))
    (h1 : ∀ i p env M, kvs[i]? = some p → I i env M → Wp (g (keyDv p.1) env M) fun e1 M1 => Wp (f e1 M1) (kLoop (I (i + 1)) fun fl M2 => Q fl (M2.set n (.dct kvs)))) (h2 : ∀ env M, I kvs.length env M → Q (.nx env) (M.set n (.dct kvs))) : Wp (fForK k g f env M) Q := by
  have w : Wp (loopF (stpK kvs) g f kvs.length 0 env (M.set n .lck)) fun fl M2 => Q fl (M2.set n (.dct kvs)) := by
    refine wp_loop I kvs.length (fun i env M hi hh => ?_) (fun env M hh => ⟨?_, h2 env M hh⟩) kvs.length 0 env _ rfl h0
    · refine ⟨keyDv kvs[i].1, ?_, h1 i _ env M (List.getElem?_eq_getElem hi) hh⟩
      show some (kvs[i]?.map fun p => keyDv p.1) = _
      rw [List.getElem?_eq_getElem hi]; rfl
    · show some (kvs[kvs.length]?.map fun p => keyDv p.1) = _
      rw [List.getElem?_eq_none (Nat.le_refl _)]; rfl
  obtain ⟨fl, M2, e, w⟩ := w
  refine ⟨fl, M2.set n (.dct kvs), ?_, w⟩
  unfold fForK
  simp only [hn, hm, e]
end
end Zl
namespace Zl
open PySem L2 PySem.Spec PyProof.Rows
theorem wq_starE {fa : FE} {fr : FA} {env : En} {M : Mem} {q : List Dv → Mem → Prop} (h : Wp (fa env M) fun d M1 => ∃ xs, (d = .tup xs ∨ ∃ n, d = .loc n ∧ M1[n]? = some (.lst xs)) ∧ Wp (fr env M1) fun ds M2 => q (xs ++ ds) M2) : Wp (fStarE fa fr env M) q := by
  unfold fStarE
  refine wp_bnd (h.go ?_)
  rintro d M1 ⟨xs, h1 | ⟨n, h1, h2⟩, w⟩
  · subst h1
    exact wp_bnd (w.go fun ds M2 k => wp_ok k)
  · subst h1
    simp only [h2]
    exact wp_bnd (w.go fun ds M2 k => wp_ok k)
end Zl

/-! text Y10 -/
namespace Zl
open PySem L2 PySem.Spec PyProof.Rows
section
variable {env : En} {M : Mem} {q : QE} {Q : QS}
/-- while the dict of a name is locked -/
theorem wq_lockE {k n : Nat} {f : FE} {kvs : List (NestedKey × Dv × Dv)} (hn : env[k]? = some (some (.loc n))) (hm : M[n]? = some (.dcn kvs)) (h : Wp (f env (M.set n (.lckN kvs))) fun d M' => q d (M'.set n (.dcn kvs))) : Wp (lockE k f env M) q := by
  obtain ⟨d, M', e, w⟩ := h
  refine ⟨d, M'.set n (.dcn kvs), ?_, w⟩
  unfold lockE
  simp only [hn, hm, e]
theorem wq_lockS {k n : Nat} {f : FS} {kvs : List (NestedKey × Dv × Dv)} (hn : env[k]? = some (some (.loc n))) (hm : M[n]? = some (.dcn kvs)) (h : Wp (f env (M.set n (.lckN kvs))) fun fl M' => Q fl (M'.set n (.dcn kvs))) : Wp (lockS k f env M) Q := by
  obtain ⟨d, M', e, w⟩ := h
  refine ⟨d, M'.set n (.dcn kvs), ?_, w⟩
  unfold lockS
  simp only [hn, hm, e]
/-- the keys of a locked dict are walked like a tuple's items -/
theorem wq_keysN {f : FE} {qi : Src → Mem → Prop} (h : Wp (f env M) fun d M1 => ∃ n kvs, d = .loc n ∧ M1[n]? = some (.lckN kvs) ∧ qi ⟨(kvs.map fun p => p.2.1).length, stpC (kvs.map fun p => p.2.1)⟩ M1) : Wp (fKeysN f env M) qi := by
  unfold fKeysN
  refine wp_bnd (h.go ?_)
  rintro _ M1 ⟨n, kvs, rfl, h1, h2⟩
  simp only [h1]
  refine wp_ok ?_
  have e : stpN kvs = stpC (kvs.map fun p => p.2.1) := by
    funext i M'
    show some (kvs[i]?.map fun p => p.2.1) = some ((kvs.map fun p => p.2.1)[i]?)
    rw [List.getElem?_map]
  rw [e, ← List.length_map (f := fun p : NestedKey × Dv × Dv => p.2.1)]
  exact h2
/-- zip of two lists, the pairs kept -/
theorem wq_zipN {f g : FE} {qi : Src → Mem → Prop} (h : Wp (f env M) fun a M1 => Wp (g env M1) fun b M2 => ∃ m n xs ys, a = .loc m ∧ b = .loc n ∧ M2[m]? = some (.lst xs) ∧ M2[n]? = some (.lst ys) ∧ ∀ src, srcZ M2 (.loc m) (.loc n) = some src → qi src M2) : Wp (fZipN f g env M) qi := by
  unfold fZipN
  refine wp_bnd (h.go fun a M1 w => wp_bnd (w.go ?_))
  rintro b M2 ⟨m, n, xs, ys, rfl, rfl, h1, h2, k⟩
  simp only [h1, h2]
  cases e : srcZ M2 (.loc m) (.loc n) with
  | some src => exact wp_ok (k src e)
  | none => simp only [srcZ, h1, h2] at e; cases e
end
end Zl

/-! text Y11 -/
namespace Zl
open PySem L2 PySem.Spec PyProof.Rows
/-! ## texts that repr writes of numbers, truths, None, in lists and tuples -/
mutual
def plnB : PyData → Bool
  | .none | .bool _ | .int _ => true
  | .list xs | .tuple xs => plnA xs
  | _ => false
def plnA : List PyData → Bool
  | [] => true
  | x :: xs => plnB x && plnA xs
end
def sml (x : Str) : Prop := ∀ k ∈ x.cps.toList, k < 1000
theorem sml_app {a b : Str} (h1 : sml a) (h2 : sml b) : sml (a ++ b) := fun k hk => by
  rw [mem_cps_append] at hk
  exact hk.elim (h1 k) (h2 k)
theorem sml_join {ts : List Str} (h : ∀ t ∈ ts, sml t) : sml (Str.join ", " ts) := fun k hk => by
  rw [mem_join] at hk
  rcases hk with ⟨t, ht, hc⟩ | ⟨_, hs⟩
  · exact h t ht k hc
  · rw [signs_sep] at hs
    simp only [List.mem_cons, List.not_mem_nil, or_false] at hs
    omega
mutual
theorem sml_shown : ∀ {p : PyData}, plnB p = true → sml p.shown
  | .none, _ => fun k hk => by
    rw [PyData.shown_none] at hk
    have e : (("None" : String) : Str).cps.toList = [78, 111, 110, 101] := by decide
    rw [e] at hk
    simp only [List.mem_cons, List.not_mem_nil, or_false] at hk
    omega
  | .bool b, _ => fun k hk => by
    rw [mem_shown_bool] at hk
    split at hk <;> simp only [List.mem_cons, List.not_mem_nil, or_false] at hk <;> omega
  | .int i, _ => fun k hk => Classical.byContradiction fun h => shown_int_free' (k := k) ⟨by omega, by omega⟩ i hk
  | .list xs, h => by
    rw [PyData.shown_list]
    unfold plnB at h
    refine sml_app (sml_app (fun k hk => ?_) (sml_join (sml_shownA h))) fun k hk => ?_
    · rw [signs_lbrack] at hk; simp at hk; omega
    · rw [signs_rbrack] at hk; simp at hk; omega
  | .tuple xs, h => by
    rw [PyData.shown_tuple]
    unfold plnB at h
    refine sml_app (sml_app (fun k hk => ?_) (sml_join (sml_shownA h))) fun k hk => ?_
    · rw [signs_lparen] at hk; simp at hk; omega
    · rw [signs_tuple_end] at hk
      split at hk <;> simp at hk <;> omega
  | .str _, h => by cases h
  | .dict _, h => by cases h
theorem sml_shownA : ∀ {xs : List PyData}, plnA xs = true → ∀ t ∈ PyData.shownAll xs, sml t
  | [], _, t, ht => by rw [PyData.shownAll_nil] at ht; cases ht
  | x :: xs, h, t, ht => by
    unfold plnA at h
    rw [Bool.and_eq_true] at h
    rw [PyData.shownAll_cons, List.mem_cons] at ht
    rcases ht with rfl | ht
    · exact sml_shown h.1
    · exact sml_shownA h.2 t ht
end
theorem shown_ok {p : PyData} (h : plnB p = true) : PyData.strOk p.shown = true := by
  unfold PyData.strOk
  rw [← Array.all_toList, List.all_eq_true]
  intro k hk
  have := sml_shown h k hk
  exact decide_eq_true (by omega)
theorem plnA_of : ∀ {xs : List PyData}, (∀ x ∈ xs, plnB x = true) → plnA xs = true
  | [], _ => rfl
  | x :: xs, h => by
    unfold plnA
    rw [h x (by simp), plnA_of fun y hy => h y (by simp [hy])]; rfl
theorem lay_strs : ∀ {ss : List Str}, (∀ s ∈ ss, PyData.strOk s = true) → PyData.canLayAll0 (ss.map PyData.str) = true ∧ PyData.depthAll (ss.map PyData.str) = 0
  | [], _ => ⟨rfl, rfl⟩
  | s :: ss, h => by
    obtain ⟨h1, h2⟩ := lay_strs (ss := ss) fun x hx => h x (by simp [hx])
    refine ⟨?_, ?_⟩
    · show PyData.canLayAll0 (PyData.str s :: ss.map PyData.str) = true
      unfold PyData.canLayAll0
      rw [h1, Bool.and_true]
      exact h s (by simp)
    · show PyData.depthAll (PyData.str s :: ss.map PyData.str) = 0
      unfold PyData.depthAll
      rw [h2]; rfl
theorem shaped_strs {ss : List Str} (h : ∀ s ∈ ss, PyData.strOk s = true) : SeqAt.shaped (.list (ss.map PyData.str)) = true := by
  obtain ⟨h1, h2⟩ := lay_strs h
  unfold SeqAt.shaped
  rw [Bool.and_eq_true]
  refine ⟨h1, decide_eq_true ?_⟩
  unfold PyData.depth
  rw [h2]; decide
theorem rd_strs2 {M : Mem} {k : Nat} : ∀ ss : List Str, rdL (rd M k) (ss.map Dv.str) = some (ss.map PyData.str)
  | [] => rfl
  | s :: ss => rdL_cons (by cases k <;> rfl) (rd_strs2 ss)
/-- two lists of the same texts are equal -/
theorem wq_eqStrs {b : Bool} {n m : Nat} {ss : List Str} {M : Mem} {q : QE} (hn : M[n]? = some (.lst (ss.map Dv.str))) (hm : M[m]? = some (.lst (ss.map Dv.str))) (h : ∀ s ∈ ss, PyData.strOk s = true) (c : q (.bl (!b)) M) : Wp (eqD b (.loc n) (.loc m) M) q := by
  have hs := shaped_strs h
  refine wq_eqD (rd_loc hn (rd_strs2 ss)) (rd_loc hm (rd_strs2 ss)) hs hs ?_
  rw [SeqAt.eqv_refl _ (SeqAt.canLay_of_shaped hs)]
  cases b <;> exact c
end Zl

/-! text Y12 -/
namespace Zl
open PySem L2 PySem.Spec PyProof.Rows
/-! ## dicts whose keys are the data of a type -/
structure KF (α : Type) where
  kf : α → NestedKey
  df : α → Dv
  key : ∀ x, keyN (df x) = some (kf x)
  inj : ∀ a b, kf a = kf b → a = b
theorem keyNoD {d : Dv} {k : NestedKey} (h : keyN d = some k) : keyD d = none := by
  cases d <;> first | rfl | cases h
section
variable {α : Type} [DecidableEq α] {F : KF α} {v v' : α → Dv} {x : α} {xs : List α} {n : Nat} {M M' : Mem}
def enG (F : KF α) (v : α → Dv) (xs : List α) : List (NestedKey × Dv × Dv) := xs.map fun x => (F.kf x, F.df x, v x)
theorem enG_len : (enG F v xs).length = xs.length := by simp [enG]
theorem valG_cons {k k' : NestedKey} {d e : Dv} {kvs : List (NestedKey × Dv × Dv)} : valN ((k', d, e) :: kvs) k = if k' = k then some e else valN kvs k := by
  unfold valN
  rw [List.find?_cons]
  by_cases h : k' = k
  · rw [if_pos h]
    simp [h]
  · rw [if_neg h]
    simp [h]
theorem val_enG (F : KF α) (v : α → Dv) (x : α) : ∀ xs : List α, valN (enG F v xs) (F.kf x) = if x ∈ xs then some (v x) else none
  | [] => rfl
  | y :: ys => by
    show valN ((F.kf y, F.df y, v y) :: enG F v ys) (F.kf x) = _
    rw [valG_cons, val_enG F v x ys]
    by_cases h : y = x
    · subst h
      rw [if_pos rfl, if_pos (List.mem_cons_self ..)]
    · have h' : ¬ x = y := fun e => h e.symm
      rw [if_neg fun e => h (F.inj _ _ e)]
      by_cases hm : x ∈ ys
      · rw [if_pos hm, if_pos (List.mem_cons_of_mem _ hm)]
      · rw [if_neg hm, if_neg (by simp [h', hm])]
theorem enG_congr (h : ∀ y ∈ xs, v y = v' y) : enG F v xs = enG F v' xs := List.map_congr_left fun y hy => by rw [h y hy]
def setV (v : α → Dv) (x : α) (d : Dv) : α → Dv := fun y => if y = x then d else v y
theorem setV_same {d : Dv} : setV v x d x = d := if_pos rfl
theorem setV_ne {d : Dv} {y : α} (h : y ≠ x) : setV v x d y = v y := if_neg h
theorem put_enG {d : Dv} (h : x ∉ xs) : putN (enG F v xs) (F.kf x) (F.df x) d = enG F (setV v x d) (xs ++ [x]) := by
  unfold putN
  rw [val_enG, if_neg h]
  show enG F v xs ++ _ = _
  rw [enG_congr (v' := setV v x d) fun y hy => (setV_ne fun e => h (by rw [← e]; exact hy)).symm]
  unfold enG
  rw [List.map_append, List.map_singleton, setV_same]
theorem upd_enG {d kd : Dv} (h : x ∈ xs) : putN (enG F v xs) (F.kf x) kd d = enG F (setV v x d) xs := by
  unfold putN
  rw [val_enG, if_pos h]
  show (enG F v xs).map _ = _
  unfold enG
  rw [List.map_map]
  refine List.map_congr_left fun y _ => ?_
  show (if F.kf y = F.kf x then (F.kf y, F.df y, d) else (F.kf y, F.df y, v y)) = _
  by_cases e : y = x
  · subst e
    rw [if_pos rfl, setV_same]
  · rw [if_neg fun z => e (F.inj _ _ z), setV_ne e]
/-- the dict at cell n: keys in order, a value for each -/
def DA (F : KF α) (v : α → Dv) (n : Nat) (xs : List α) (M : Mem) : Prop := (xs = [] ∧ M[n]? = some (.dct [])) ∨ M[n]? = some (.dcn (enG F v xs))
theorem DA.kp {W : Nat → Prop} (h : DA F v n xs M) (k : Kp W M M') (w : ¬ W n) : DA F v n xs M' := h.imp (fun z => ⟨z.1, k.at z.2 w⟩) fun z => k.at z w
theorem DA.lt (h : DA F v n xs M) : n < M.length := by
  rcases h with ⟨_, h⟩ | h <;> exact lt_of h
theorem DA.congr (h : DA F v n xs M) (e : ∀ y ∈ xs, v y = v' y) : DA F v' n xs M := h.imp id fun z => by rw [← enG_congr e]; exact z
theorem DA.full (h : DA F v n xs M) (ne : xs ≠ []) : M[n]? = some (.dcn (enG F v xs)) := h.elim (fun z => absurd z.1 ne) id
theorem wg_in {b : Bool} {d : Dv} {q : QE} (h : DA F v n xs M) (hk : keyN d = some (F.kf x)) (c : q (.bl (xor b (decide (x ∈ xs)))) M) : Wp (inE b d (.loc n) M) q := by
  rcases h with ⟨rfl, h⟩ | h
  · refine wp_ev (a := .bl (xor b false)) (M' := M) ?_ (by simpa using c)
    unfold inE; simp only [h, hk, keyNoD hk]
  · refine wp_ev (a := .bl (xor b (valN (enG F v xs) (F.kf x)).isSome)) (M' := M) ?_ ?_
    · unfold inE; simp only [h, hk]
    · rw [val_enG]
      by_cases hx : x ∈ xs
      · rw [if_pos hx]; rw [decide_eq_true hx] at c; exact c
      · rw [if_neg hx]; rw [decide_eq_false hx] at c; exact c
theorem wg_ix {d : Dv} {q : QE} (h : DA F v n xs M) (hk : keyN d = some (F.kf x)) (hx : x ∈ xs) (c : q (v x) M) : Wp (ixE (.loc n) d M) q := by
  have h := h.full (List.ne_nil_of_mem hx)
  refine wp_ev ?_ c
  unfold ixE
  simp only [h, hk, val_enG, if_pos hx]
theorem wg_len {q : QE} (h : DA F v n xs M) (c : q (.int (xs.length : Nat)) M) : Wp (lenE [.loc n] M) q := by
  rcases h with ⟨rfl, h⟩ | h
  · exact wp_ev (M' := M) (by unfold lenE; simp only [h]; rfl) c
  · exact wp_ev (a := .int ((enG F v xs).length : Nat)) (M' := M) (by unfold lenE; simp only [h]) (by rw [enG_len]; exact c)
theorem setN_some {d : Dv} (h : DA F v n xs M) (hl : xs.length ≤ 1000000) : ∃ M', setN n (F.df x) d M = some M' ∧ DA F (setV v x d) n (if x ∈ xs then xs else xs ++ [x]) M' ∧ Kp (fun m => m = n) M M' ∧ M'.length = M.length := by
  have keep : ∀ {o : Ob}, Kp (fun m => m = n) M (M.set n o) := fun {o} => .set fun _ => rfl
  unfold setN
  simp only [F.key]
  rcases h with ⟨rfl, h⟩ | h
  · simp only [h]
    refine ⟨_, rfl, .inr ?_, keep, by simp⟩
    rw [if_neg (by simp), at_set h]
    exact congrArg (fun z => some (Ob.dcn z)) (put_enG (v := v) (x := x) (d := d) (xs := []) (by simp))
  · simp only [h]
    rw [if_pos (by rw [enG_len]; exact size_lt (Nat.le_trans hl (by decide)))]
    refine ⟨_, rfl, .inr ?_, keep, by simp⟩
    rw [at_set h]
    by_cases hx : x ∈ xs
    · rw [if_pos hx, upd_enG hx]
    · rw [if_neg hx, put_enG hx]
theorem kg_set {d : Dv} {Q : Mem → Prop} (h : DA F v n xs M) (hl : xs.length ≤ 1000000) (c : ∀ M', DA F (setV v x d) n (if x ∈ xs then xs else xs ++ [x]) M' → Kp (fun m => m = n) M M' → M'.length = M.length → Q M') : kSet (.loc n) (F.df x) d Q M := by
  obtain ⟨M', e, a, b, l⟩ := setN_some (x := x) (d := d) h hl
  refine ⟨M', ?_, c M' a b l⟩
  unfold setN at e
  simp only [F.key] at e
  unfold setE
  rcases h with ⟨rfl, h⟩ | h
  · simp only [h] at e
    simp only [h, F.key, keyNoD (F.key x)]
    exact e
  · simp only [h] at e
    simp only [h, F.key]
    exact e
/-! locked -/
def LA (F : KF α) (v : α → Dv) (n : Nat) (xs : List α) (M : Mem) : Prop := M[n]? = some (.lckN (enG F v xs))
theorem wg_ixF {d : Dv} {q : QE} (h : LA F v n xs M) (hk : keyN d = some (F.kf x)) (hx : x ∈ xs) (c : q (v x) M) : Wp (ixF (.loc n) d M) q := by
  refine wp_ev ?_ c
  unfold LA at h
  unfold ixF
  simp only [h, hk, val_enG, if_pos hx]
theorem wg_lockE {env : En} {p : En → Mem → Option Nat} {f : FE} {q : QE} (h : DA F v n xs M) (ne : xs ≠ []) (hp : p env M = some n) (c : ∀ M0, LA F v n xs M0 → Kp (fun m => m = n) M M0 → M0.length = M.length → Wp (f env M0) fun d M' => LA F v n xs M' ∧ ∀ M2, DA F v n xs M2 → Kp (fun m => m = n) M' M2 → M2.length = M'.length → q d M2) : Wp (lockEP p f env M) q := by
  have hm := h.full ne
  obtain ⟨d, M', e, w1, w2⟩ := c (M.set n (.lckN (enG F v xs))) (at_set hm) (.set fun _ => rfl) (by simp)
  refine ⟨d, M'.set n (.dcn (enG F v xs)), ?_, w2 _ (.inr (at_set w1)) (.set fun _ => rfl) (by simp)⟩
  unfold lockEP
  simp only [hp, hm, e]
theorem wg_lockS {env : En} {p : En → Mem → Option Nat} {f : FS} {Q : QS} (h : DA F v n xs M) (ne : xs ≠ []) (hp : p env M = some n) (c : ∀ M0, LA F v n xs M0 → Kp (fun m => m = n) M M0 → M0.length = M.length → Wp (f env M0) fun d M' => LA F v n xs M' ∧ ∀ M2, DA F v n xs M2 → Kp (fun m => m = n) M' M2 → M2.length = M'.length → Q d M2) : Wp (lockSP p f env M) Q := by
  have hm := h.full ne
  obtain ⟨d, M', e, w1, w2⟩ := c (M.set n (.lckN (enG F v xs))) (at_set hm) (.set fun _ => rfl) (by simp)
  refine ⟨d, M'.set n (.dcn (enG F v xs)), ?_, w2 _ (.inr (at_set w1)) (.set fun _ => rfl) (by simp)⟩
  unfold lockSP
  simp only [hp, hm, e]
theorem enG_keys : ((enG F v xs).map fun p => p.2.1) = xs.map F.df := by unfold enG; rw [List.map_map]; rfl
/-- the keys of a locked dict -/
theorem wg_keys {env : En} {f : FE} {qi : Src → Mem → Prop} (h : Wp (f env M) fun d M1 => ∃ n, d = .loc n ∧ LA F v n xs M1 ∧ qi ⟨(xs.map F.df).length, stpC (xs.map F.df)⟩ M1) : Wp (fKeysN f env M) qi := by
  refine wq_keysN (h.go ?_)
  rintro _ M1 ⟨n, rfl, h1, h2⟩
  refine ⟨n, _, rfl, h1, ?_⟩
  rw [enG_keys]; exact h2
theorem wg_keysT {env : En} {f : FE} {qi : Src → Mem → Prop} (ne : xs ≠ []) (h : Wp (f env M) fun d M1 => ∃ n, d = .loc n ∧ DA F v n xs M1 ∧ ∀ M2, Kp (fun m => m = n) M1 M2 → M2.length = M1.length → qi ⟨(xs.map F.df).length, stpC (xs.map F.df)⟩ M2) : Wp (fKeysT f env M) qi := by
  unfold fKeysT
  refine wp_bnd (h.go ?_)
  rintro _ M1 ⟨n, rfl, h1, h2⟩
  have hm := h1.full ne
  simp only [hm]
  refine wp_ok ?_
  have e : stpN (enG F v xs) = stpC (xs.map F.df) := by
    funext i M'
    show some ((enG F v xs)[i]?.map fun p => p.2.1) = some ((xs.map F.df)[i]?)
    rw [← enG_keys (F := F) (v := v), List.getElem?_map]
  rw [e, enG_len, ← List.length_map (f := F.df)]
  exact h2 _ (.set fun _ => rfl) (by simp)
/-- list(d) -/
theorem wg_list {q : QE} (h : DA F v n xs M) (c : kNew (.lst (xs.map F.df)) (fun m M2 => q (.loc m) M2) M) : Wp (lstG [.loc n] M) q := by
  refine wp_ev (a := .loc M.length) (M' := M ++ [.lst (xs.map F.df)]) ?_ (c _ _ rfl at_new (.app _) (by simp))
  unfold lstG
  rcases h with ⟨rfl, h⟩ | h
  · simp only [h]
    unfold lstF
    simp only [h]; rfl
  · simp only [h, enG_keys]
/-- d[k] op= e -/
theorem wg_aug {env : En} {op : Int → Int → Int} {fo fi fe : FE} {Q : QS} (h : Wp (fo env M) fun o M1 => Wp (fi env M1) fun i M2 => ∃ (n : Nat) (xs : List α) (x : α) (a : Int) (v : α → Dv), o = .loc n ∧ i = F.df x ∧ DA F v n xs M2 ∧ x ∈ xs ∧ v x = .int a ∧ xs.length ≤ 1000000 ∧ Wp (fe env M2) fun y M4 => ∃ b : Int, y = .int b ∧ DA F v n xs M4 ∧
    ∀ M5, DA F (setV v x (.int (op a b))) n xs M5 → Kp (fun m => m = n) M4 M5 → M5.length = M4.length → Q (.nx env) M5) : Wp (fAugN op fo fi fe env M) Q := by
  unfold fAugN
  refine wp_bnd (h.go fun o M1 w => wp_bnd (w.go ?_))
  rintro i M2 ⟨n, xs, x, a, v, rfl, rfl, h1, hx, hv, hl, w⟩
  simp only [h1.full (List.ne_nil_of_mem hx), F.key, val_enG, if_pos hx, hv]
  refine wp_bnd (w.go ?_)
  rintro _ M4 ⟨b, rfl, h2, c⟩
  obtain ⟨M5, e, a5, k5, l5⟩ := setN_some (x := x) (d := .int (op a b)) h2 hl
  rw [if_pos hx] at a5
  simp only [e]
  exact wp_ok (c M5 a5 k5 l5)
end
theorem wg_maxD {env : En} {M : Mem} {k : Int} {f : FE} {q : QE} (h : Wp (f env M) fun d M1 => ∃ n xs is, d = .loc n ∧ M1[n]? = some (.lst xs) ∧ intsD xs = some is ∧ q (.int (maxOfI is k)) M1) : Wp (fMaxDf k f env M) q := by
  unfold fMaxDf
  refine wp_bnd (h.go ?_)
  rintro _ M1 ⟨n, xs, is, rfl, h1, h2, h3⟩
  simp only [h1, h2]
  exact wp_ok h3
theorem wp_compD {it : Stp} {g : FG} {ft : FT} {fk fv : FE} {e0 : En} {n m : Nat} {q : Mem → Prop} (I : Nat → Mem → Prop)
    (hs : ∀ i M, i < m → I i M → ∃ d, it i M = some (some d) ∧ Wp (g d e0 M) fun e1 M2 => Wp (ft e1 M2) fun b M3 => (b = true → Wp (fk e1 M3) fun y M4 => Wp (fv e1 M4) fun z M5 => ∃ M6, setN n y z M5 = some M6 ∧ I (i + 1) M6) ∧ (b = false → I (i + 1) M3))
    (he : ∀ M, I m M → it m M = some none ∧ q M) : ∀ (k i : Nat) (M : Mem), k + i = m → I i M → ∃ M', compDF it g ft fk fv e0 n k i M = some M' ∧ q M'
  | 0, i, M, e, hi => by
    obtain rfl : i = m := by omega
    obtain ⟨a, b⟩ := he M hi
    exact ⟨M, by unfold compDF; simp only [a], b⟩
  | k + 1, i, M, e, hi => by
    obtain ⟨d, a, e1, M2, g1, b, M3, t1, h1, h2⟩ := hs i M (by omega) hi
    unfold compDF
    simp only [a, g1, t1]
    cases b with
    | true =>
      obtain ⟨y, M4, k1, z, M5, v1, M6, s1, i1⟩ := h1 rfl
      simp only [k1, v1, s1]
      exact wp_compD I hs he k (i + 1) M6 (by omega) i1
    | false => exact wp_compD I hs he k (i + 1) M3 (by omega) (h2 rfl)
/-- {k: v for t in src if c}: I i holds behind i turns -/
theorem wg_compD {fi : FI} {vs : List Nat} {g : FG} {ft : FT} {fk fv : FE} {env : En} {M : Mem} {q : QE} (I : Nat → Nat → Mem → Prop) (h : Wp (fi env M) fun src M1 => I M1.length 0 (M1 ++ [.dct []]) ∧
      (∀ i M', i < src.many → I M1.length i M' → ∃ d, src.stp i M' = some (some d) ∧ Wp (g d (wipeE env vs) M') fun e1 M2 => Wp (ft e1 M2) fun b M3 => (b = true → Wp (fk e1 M3) fun y M4 => Wp (fv e1 M4) fun z M5 => ∃ M6, setN M1.length y z M5 = some M6 ∧ I M1.length (i + 1) M6) ∧ (b = false → I M1.length (i + 1) M3)) ∧
      ∀ M', I M1.length src.many M' → src.stp src.many M' = some none ∧ q (.loc M1.length) M') : Wp (fCompD fi vs g ft fk fv env M) q := by
  unfold fCompD
  refine wp_bnd (h.go fun src M1 ⟨h0, h1, h2⟩ => ?_)
  obtain ⟨M', e, hq⟩ := wp_compD (q := fun M' => q (.loc M1.length) M') (I M1.length) h1 h2 src.many 0 _ (by omega) h0
  simp only [e]
  exact wp_ok hq
/-- a for whose invariant is told behind the source -/
theorem wg_for {fi : FI} {g : FG} {f : FS} {env : En} {M : Mem} {Q : QS} (h : Wp (fi env M) fun src M1 => ∃ I, kFor I g f env Q src M1) : Wp (fFor fi g f env M) Q := by
  obtain ⟨src, M1, e, I, w⟩ := h
  exact wq_for I ⟨src, M1, e, w⟩
/-- a cell that is as it was -/
theorem kp_same {W : Nat → Prop} {n : Nat} {o : Ob} {M M' : Mem} (k : Kp (fun a => a = n ∨ W a) M M') (h : M[n]? = some o) (h' : M'[n]? = some o) : Kp W M M' := by
  refine ⟨k.1, fun m hm hw => ?_⟩
  by_cases e : m = n
  · subst e
    rw [h, h']
  · exact k.2 m hm fun q => q.elim e hw
theorem kp_same0 {n : Nat} {o : Ob} {M M' : Mem} (k : Kp (fun a => a = n) M M') (h : M[n]? = some o) (h' : M'[n]? = some o) : Kp NoW M M' :=
  kp_same (n := n) ⟨k.1, fun m hm hw => k.2 m hm fun q => hw (.inl q)⟩ h h'
def setL {α : Type} [DecidableEq α] (la : α → Nat) (x : α) (w : Nat) : α → Nat := fun y => if y = x then w else la y
theorem setL_same {α : Type} [DecidableEq α] {la : α → Nat} {x : α} {w : Nat} : setL la x w x = w := if_pos rfl
theorem setL_ne {α : Type} [DecidableEq α] {la : α → Nat} {x y : α} {w : Nat} (h : y ≠ x) : setL la x w y = la y := if_neg h
theorem setVL {α : Type} [DecidableEq α] {la : α → Nat} {x : α} {w : Nat} : setV (fun y => Dv.loc (la y)) x (.loc w) = fun y => .loc (setL la x w y) := by
  funext y
  unfold setV setL
  split <;> rfl
theorem setVI {α : Type} [DecidableEq α] {la : α → Nat} {x : α} {w : Nat} : setV (fun y => Dv.int (la y : Nat)) x (.int (w : Nat)) = fun y => .int (setL la x w y : Nat) := by
  funext y
  unfold setV setL
  split <;> rfl
theorem wg_lockSet {p : En → Mem → Option Nat} {i : Nat} {fe : FE} {env : En} {M : Mem} {Q : QS} (h : Wp (lockEP p fe env M) fun d M' => Q (.nx (env.set i (some d))) M') : Wp (lockSP p (fSet i fe) env M) Q := by
  obtain ⟨d, M', e, w⟩ := h
  unfold lockEP at e
  split at e
  · rename_i n hn
    split at e
    · rename_i kvs hm
      split at e
      · rename_i d' N hl
        cases e
        refine ⟨.nx (env.set i (some d)), _, ?_, w⟩
        unfold lockSP fSet
        simp only [hn, hm, hl, bnd]
      · cases e
    · cases e
  · cases e
theorem wg_keysU {α : Type} [DecidableEq α] (F : KF α) {M : Mem} {env : En} {f : FE} {qi : Src → Mem → Prop} (h : Wp (f env M) fun d M1 => ∃ (n : Nat) (xs : List α) (v : α → Dv), xs ≠ [] ∧ d = .loc n ∧ DA F v n xs M1 ∧ ∀ M2, Kp (fun m => m = n) M1 M2 → M2.length = M1.length → qi ⟨(xs.map F.df).length, stpC (xs.map F.df)⟩ M2) : Wp (fKeysT f env M) qi := by
  obtain ⟨d, M1, e, n, xs, v, ne, rfl, h1, h2⟩ := h
  exact wg_keysT (F := F) (v := v) (xs := xs) ne ⟨_, M1, e, n, rfl, h1, h2⟩
end Zl

/-! text Fg1 -/
namespace Zl
/-! ## how far paths lead: ranks -/
theorem len_sub {α : Type} [DecidableEq α] : ∀ {xs ys : List α}, xs.Nodup → (∀ x ∈ xs, x ∈ ys) → xs.length ≤ ys.length
  | [], _, _, _ => Nat.zero_le _
  | x :: xs, ys, nd, h => by
    rw [List.nodup_cons] at nd
    have hx := h x (List.mem_cons_self ..)
    have q := len_sub (ys := ys.erase x) nd.2 fun y hy => (List.mem_erase_of_ne fun e => nd.1 (by rw [← e]; exact hy)).mpr (h y (List.mem_cons_of_mem _ hy))
    rw [List.length_erase_of_mem hx] at q
    have := List.length_pos_of_mem hx
    rw [List.length_cons]; omega
section
variable {α : Type} [DecidableEq α] (ed : α → List (Nat × α))
def Pth : Nat → α → Prop
  | 0, _ => True
  | k + 1, x => ∃ e ∈ ed x, Pth k e.2
variable {ed}
theorem Pth.less : ∀ {k j : Nat} {x : α}, Pth ed k x → j ≤ k → Pth ed j x
  | _, 0, _, _, _ => trivial
  | 0, j + 1, _, _, h => absurd h (by omega)
  | k + 1, j + 1, _, ⟨e, he, p⟩, h => ⟨e, he, p.less (by omega)⟩
variable (ed) in
def Rk (x : α) (k : Nat) : Prop := Pth ed k x ∧ ¬ Pth ed (k + 1) x
theorem Rk.uniq {x : α} {j k : Nat} (h : Rk ed x j) (h' : Rk ed x k) : j = k := by
  rcases Nat.lt_trichotomy j k with q | q | q
  · exact absurd (h'.1.less q) h.2
  · exact q
  · exact absurd (h.1.less q) h'.2
theorem Rk.le {x : α} {j k : Nat} (h : Rk ed x k) (p : Pth ed j x) : j ≤ k := Classical.byContradiction fun q => h.2 (p.less (by omega))
theorem fold_rk (r : α → Nat) : ∀ (es : List (Nat × α)) (m : Nat), m ≤ es.foldl (fun m e => max m (1 + r e.2)) m ∧ (∀ e ∈ es, 1 + r e.2 ≤ es.foldl (fun m e => max m (1 + r e.2)) m) ∧
    (es.foldl (fun m e => max m (1 + r e.2)) m = m ∨ ∃ e ∈ es, es.foldl (fun m e => max m (1 + r e.2)) m = 1 + r e.2)
  | [], m => ⟨Nat.le_refl _, fun e h => (by cases h), .inl rfl⟩
  | e :: es, m => by
    obtain ⟨h1, h2, h3⟩ := fold_rk r es (max m (1 + r e.2))
    rw [List.foldl_cons]
    refine ⟨by omega, fun z hz => ?_, ?_⟩
    · rcases List.mem_cons.mp hz with rfl | hz
      · omega
      · exact h2 z hz
    · rcases h3 with h3 | ⟨z, hz, h3⟩
      · rcases Nat.le_total m (1 + r e.2) with q | q
        · exact .inr ⟨e, List.mem_cons_self .., by omega⟩
        · exact .inl (by omega)
      · exact .inr ⟨z, List.mem_cons_of_mem _ hz, h3⟩
def rkOf (ed : α → List (Nat × α)) (r : α → Nat) (x : α) : Nat := (ed x).foldl (fun m e => max m (1 + r e.2)) 0
theorem rk_of {r : α → Nat} {x : α} (h : ∀ e ∈ ed x, Rk ed e.2 (r e.2)) : Rk ed x (rkOf ed r x) := by
  obtain ⟨h1, h2, h3⟩ := fold_rk r (ed x) 0
  refine ⟨?_, fun ⟨e, he, p⟩ => ?_⟩
  · unfold rkOf
    rcases h3 with h3 | ⟨e, he, h3⟩
    · rw [h3]; trivial
    · rw [h3, Nat.add_comm]
      exact ⟨e, he, (h e he).1⟩
  · have a := h2 e he
    have b := (h e he).le p
    have : rkOf ed r x = (ed x).foldl (fun m e => max m (1 + r e.2)) 0 := rfl
    omega
theorem endless {U : α → Prop} (h : ∀ x, U x → ∃ e ∈ ed x, U e.2) : ∀ (k : Nat) (x : α), U x → Pth ed k x
  | 0, _, _ => trivial
  | k + 1, x, hx => by
    obtain ⟨e, he, hu⟩ := h x hx
    exact ⟨e, he, endless h k e.2 hu⟩
theorem rk_chain {E : List α} (cl : ∀ x ∈ E, ∀ e ∈ ed x, e.2 ∈ E) : ∀ (k : Nat) (x : α), x ∈ E → Rk ed x k → ∃ L : List α, L.length = k + 1 ∧ L.Nodup ∧ ∀ y ∈ L, y ∈ E ∧ ∃ j, j ≤ k ∧ Rk ed y j
  | 0, x, hx, h => ⟨[x], rfl, by simp, fun y hy => by rw [List.mem_singleton.mp hy]; exact ⟨hx, 0, Nat.le_refl _, h⟩⟩
  | k + 1, x, hx, h => by
    obtain ⟨e, he, p⟩ := h.1
    have r : Rk ed e.2 k := ⟨p, fun q => h.2 ⟨e, he, q⟩⟩
    obtain ⟨L, l1, l2, l3⟩ := rk_chain cl k e.2 (cl x hx e he) r
    refine ⟨x :: L, by rw [List.length_cons, l1], List.nodup_cons.mpr ⟨fun hm => ?_, l2⟩, fun y hy => ?_⟩
    · obtain ⟨_, j, hj, rj⟩ := l3 x hm
      have := rj.uniq h
      omega
    · rcases List.mem_cons.mp hy with rfl | hy
      · exact ⟨hx, k + 1, Nat.le_refl _, h⟩
      · obtain ⟨a, j, hj, b⟩ := l3 y hy
        exact ⟨a, j, by omega, b⟩
theorem rk_small {E : List α} (cl : ∀ x ∈ E, ∀ e ∈ ed x, e.2 ∈ E) {x : α} {k : Nat} (hx : x ∈ E) (h : Rk ed x k) : k + 1 ≤ E.length := by
  obtain ⟨L, l1, l2, l3⟩ := rk_chain cl k x hx h
  rw [← l1]
  exact len_sub l2 fun y hy => (l3 y hy).1
variable (ed) in
/-- after how many nothing is left; none: never -/
def FgS (S : α → Prop) : Option Nat → Prop
  | none => ∀ k, ∃ s, S s ∧ Pth ed k s
  | some v => ∃ k, v = k + 1 ∧ (∃ s, S s ∧ Pth ed k s) ∧ ∀ s, S s → ¬ Pth ed (k + 1) s
theorem fg_uniq {S : α → Prop} : ∀ {a b : Option Nat}, FgS ed S a → FgS ed S b → a = b
  | none, none, _, _ => rfl
  | none, some _, h, ⟨k, _, _, h2⟩ => by obtain ⟨s, a, b⟩ := h (k + 1); exact absurd b (h2 s a)
  | some _, none, ⟨k, _, _, h2⟩, h => by obtain ⟨s, a, b⟩ := h (k + 1); exact absurd b (h2 s a)
  | some v, some w, ⟨j, e1, ⟨s, s1, s2⟩, h1⟩, ⟨k, e2, ⟨u, u1, u2⟩, h2⟩ => by
    have a : ¬ j < k := fun q => h1 u u1 (u2.less q)
    have b : ¬ k < j := fun q => h2 s s1 (s2.less q)
    rw [e1, e2, show j = k by omega]
theorem fg_congr {S S' : α → Prop} (h : ∀ s, S s ↔ S' s) : ∀ {a : Option Nat}, FgS ed S a → FgS ed S' a
  | none, q => fun k => by obtain ⟨s, a, b⟩ := q k; exact ⟨s, (h s).mp a, b⟩
  | some v, ⟨k, e, ⟨s, s1, s2⟩, q⟩ => ⟨k, e, ⟨s, (h s).mp s1, s2⟩, fun u hu => q u ((h u).mpr hu)⟩
/-- layer by layer -/
def Lay (ed : α → List (Nat × α)) (L L' : List α) : Prop := ∀ y, y ∈ L' ↔ ∃ x ∈ L, ∃ e ∈ ed x, e.2 = y
theorem lay_step {L L' : List α} (h : Lay ed L L') (k : Nat) : (∃ x ∈ L', Pth ed k x) ↔ ∃ x ∈ L, Pth ed (k + 1) x := by
  constructor
  · rintro ⟨y, hy, p⟩
    obtain ⟨x, hx, e, he, rfl⟩ := (h y).mp hy
    exact ⟨x, hx, e, he, p⟩
  · rintro ⟨x, hx, e, he, p⟩
    exact ⟨e.2, (h e.2).mpr ⟨x, hx, e, he, rfl⟩, p⟩
end
end Zl

/-! text B60 -/
namespace L60
open PySem L2 PySem.Spec PyProof.Rows Zl
def top (i : Nat) : Stmt := PySem.Challenge.pw_missbounds_k60_forgetting.main.body.getD i (.Pass ⟨0, 0, 0, 0⟩)
def c_MOST_LINES : Dv := .int 4
def c_MOST_STATES : Dv := .int 64
/-! Memory.is_endless -/
abbrev s_Memory_is_endless : Stmt := inClass (top 20) 2
theorem sc_Memory_is_endless : FnScope ["self"] ["self"] (defScope s_Memory_is_endless) := ⟨rfl, rfl, rfl, by decide +kernel, rfl, by decide +kernel, by decide +kernel⟩
def b_Memory_is_endless : FS := (fRet (fO ltD (fC lenE (fCons (fFld 0 "ranks" (fV 0)) fNil)) (fC lenE (fCons (fFld 0 "edges" (fV 0)) fNil))))
def m_Memory_is_endless : FF := callF 1 b_Memory_is_endless
/-! Memory.longest -/
abbrev s_Memory_longest : Stmt := inClass (top 20) 3
theorem sc_Memory_longest : FnScope ["self", "found", "here"] ["self"] (defScope s_Memory_longest) := ⟨rfl, rfl, rfl, by decide +kernel, rfl, by decide +kernel, by decide +kernel⟩
def b_Memory_longest : FS := (fSeq (fSet 1 (fK .non)) (fSeq (lockSP (locF 0 "starts") (fFor (fKeysN (fFld 0 "starts" (fV 0))) (gN 2) (fIfS ((fOrT (fB (fO (isE false) (fV 1) (fK .non))) (fB (fO gtD (fO ixE (fFld 0 "ranks" (fV 0)) (fV 2)) (fO ixE (fFld 0 "ranks" (fV 0)) (fV 1)))))) (fSet 1 (fV 2)) fEnd))) (fRet (fV 1))))
def m_Memory_longest : FF := callF 3 b_Memory_longest
/-! Memory.rank_all -/
abbrev s_Memory_rank_all : Stmt := inClass (top 20) 1
theorem sc_Memory_rank_all : FnScope ["self", "ahead", "left", "here", "move", "goal", "order", "at", "before"] ["self"] (defScope s_Memory_rank_all) := ⟨rfl, rfl, rfl, by decide +kernel, rfl, by decide +kernel, by decide +kernel⟩
def b_Memory_rank_all : FS := (fSeq (lockSP (locF 0 "edges") (fSet 1 (fCompD (fKeysN (fFld 0 "edges" (fV 0))) [3] (gN 3) fYes (fV 3) (fLst fNil)))) (fSeq (fSet 2 (lockEP (locF 0 "edges") (fCompD (fKeysN (fFld 0 "edges" (fV 0))) [3] (gN 3) fYes (fV 3) (fC lenE (fCons (fO ixF (fFld 0 "edges" (fV 0)) (fV 3)) fNil))))) (fSeq (lockSP (locF 0 "edges") (fFor (fKeysN (fFld 0 "edges" (fV 0))) (gN 3) (fFor (fSrc (fO ixF (fFld 0 "edges" (fV 0)) (fV 3))) (gOr (gT 2 (gsCons (gN 4) (gsCons (gN 5) gsNil))) (gL 2 (gsCons (gN 4) (gsCons (gN 5) gsNil)))) (fDrop ((fM "list" appendD (fO ixE (fV 1) (fV 5)) (fCons (fV 3) fNil))))))) (fSeq (lockSP (locF 0 "edges") (fSet 6 (fComp (fKeysN (fFld 0 "edges" (fV 0))) [3] (gN 3) (fB (fO (eqD false) (fO ixE (fV 2) (fV 3)) (fK (.int 0)))) (fV 3)))) (fSeq (fSet 7 (fK (.int 0))) (whileF (fB (fO ltD (fV 7) (fC lenE (fCons (fV 6) fNil)))) (fSeq (fSet 3 (fO ixE (fV 6) (fV 7))) (fSeq (fAsg (fMaxDf 0 (fComp (fSrc (fO ixE (fFld 0 "edges" (fV 0)) (fV 3))) [4, 5] (gOr (gT 2 (gsCons (gN 4) (gsCons (gN 5) gsNil))) (gL 2 (gsCons (gN 4) (gsCons (gN 5) gsNil)))) fYes (fO addD (fK (.int 1)) (fO ixE (fFld 0 "ranks" (fV 0)) (fV 5))))) (gSE (fFld 0 "ranks" (fV 0)) (fV 3))) (fSeq (fFor (fSrc (fO ixE (fV 1) (fV 3))) (gN 8) (fSeq (fAugN (fun i j => i - j) (fV 2) (fV 8) (fK (.int 1))) (fIfS (fB (fO (eqD false) (fO ixE (fV 2) (fV 8)) (fK (.int 0)))) (fDrop ((fM "list" appendD (fV 6) (fCons (fV 8) fNil)))) fEnd))) (fAug 7 (fun i j => i + j) (fK (.int 1)))))) 1000000))))))
def m_Memory_rank_all : FF := callF 9 b_Memory_rank_all
/-! put_at -/
abbrev s_put_at : Stmt := top 13
theorem sc_put_at : FnScope ["row", "index", "value"] ["row", "index", "value"] (defScope s_put_at) := ⟨rfl, rfl, rfl, by decide +kernel, rfl, by decide +kernel, by decide +kernel⟩
def b_put_at : FS := (fRet (fTup (fStarE (fSl (fV 0) fNoP (fP (fV 1))) (fCons (fV 2) (fStarE (fSl (fV 0) (fP (fO addD (fV 1) (fK (.int 1)))) fNoP) fNil)))))
def m_put_at : FF := callF 3 b_put_at
/-! fresh_moves -/
abbrev s_fresh_moves : Stmt := top 15
theorem sc_fresh_moves : FnScope ["policy", "here", "state", "marks", "victim", "after", "hits", "found", "line"] ["policy", "here"] (defScope s_fresh_moves) := ⟨rfl, rfl, rfl, by decide +kernel, rfl, by decide +kernel, by decide +kernel⟩
def b_fresh_moves : FS := (fSeq (fAsg (fV 1) (gOr (gT 2 (gsCons (gN 2) (gsCons (gN 3) gsNil))) (gL 2 (gsCons (gN 2) (gsCons (gN 3) gsNil))))) (fSeq (fAsg (fO ixE (fO ixE (fV 0) (fK (.int 1))) (fV 2)) (gOr (gT 3 (gsCons (gN 4) (gsCons (gN 5) (gsCons (gN 6) gsNil)))) (gL 3 (gsCons (gN 4) (gsCons (gN 5) (gsCons (gN 6) gsNil)))))) (fSeq (fSet 7 (fComp (fRng1 (fO ixE (fV 0) (fK (.int 0)))) [8] (gN 8) (fB (fO (isG false) (fO ixE (fV 3) (fV 8)) (fK (.bl true)))) (fTup (fCons (fV 8) (fCons (fTup (fCons (fO ixE (fV 6) (fV 8)) (fCons (fCall 3 m_put_at (fCons (fV 3) (fCons (fV 8) (fCons (fK (.bl false)) fNil)))) fNil))) fNil))))) (fRet (fO addD (fV 7) (fLst (fCons (fTup (fCons (fO ixE (fV 0) (fK (.int 0))) (fCons (fTup (fCons (fV 5) (fCons (fCall 3 m_put_at (fCons (fV 3) (fCons (fV 4) (fCons (fK (.bl false)) fNil)))) fNil))) fNil))) fNil)))))))
def m_fresh_moves : FF := callF 9 b_fresh_moves
/-! has_old -/
abbrev s_has_old : Stmt := top 19
theorem sc_has_old : FnScope ["here"] ["here"] (defScope s_has_old) := ⟨rfl, rfl, rfl, by decide +kernel, rfl, by decide +kernel, by decide +kernel⟩
def b_has_old : FS := (fRet (fO (inE false) (fK (.bl true)) (fO ixE (fV 0) (fK (.int 1)))))
def m_has_old : FF := callF 1 b_has_old
/-! old_marks -/
abbrev s_old_marks : Stmt := top 18
theorem sc_old_marks : FnScope ["stage", "state", "filled", "one"] ["stage"] (defScope s_old_marks) := ⟨rfl, rfl, rfl, by decide +kernel, rfl, by decide +kernel, by decide +kernel⟩
def b_old_marks : FS := (fSeq (fAsg (fV 0) (gOr (gT 2 (gsCons (gN 1) (gsCons (gN 2) gsNil))) (gL 2 (gsCons (gN 1) (gsCons (gN 2) gsNil))))) (fRet (fTup (fCons (fV 1) (fCons (fC tupD (fCons (fComp (fSrc (fV 2)) [3] (gN 3) fYes (fIf (fTr (fV 3)) (fK (.bl true)) (fK .non))) fNil)) fNil)))))
def m_old_marks : FF := callF 4 b_old_marks
/-! any_moves -/
abbrev s_any_moves : Stmt := top 14
theorem sc_any_moves : FnScope ["policy", "stage", "state", "filled", "victim", "after", "hits", "found", "line"] ["policy", "stage"] (defScope s_any_moves) := ⟨rfl, rfl, rfl, by decide +kernel, rfl, by decide +kernel, by decide +kernel⟩
def b_any_moves : FS := (fSeq (fAsg (fV 1) (gOr (gT 2 (gsCons (gN 2) (gsCons (gN 3) gsNil))) (gL 2 (gsCons (gN 2) (gsCons (gN 3) gsNil))))) (fSeq (fAsg (fO ixE (fO ixE (fV 0) (fK (.int 1))) (fV 2)) (gOr (gT 3 (gsCons (gN 4) (gsCons (gN 5) (gsCons (gN 6) gsNil)))) (gL 3 (gsCons (gN 4) (gsCons (gN 5) (gsCons (gN 6) gsNil)))))) (fSeq (fSet 7 (fComp (fRng1 (fO ixE (fV 0) (fK (.int 0)))) [8] (gN 8) (fTr (fO ixE (fV 3) (fV 8))) (fTup (fCons (fV 8) (fCons (fTup (fCons (fO ixE (fV 6) (fV 8)) (fCons (fV 3) fNil))) fNil))))) (fRet (fO addD (fV 7) (fLst (fCons (fTup (fCons (fO ixE (fV 0) (fK (.int 0))) (fCons (fTup (fCons (fV 5) (fCons (fCall 3 m_put_at (fCons (fV 3) (fCons (fV 4) (fCons (fK (.bl true)) fNil)))) fNil))) fNil))) fNil)))))))
def m_any_moves : FF := callF 9 b_any_moves
/-! filled_stages -/
abbrev s_filled_stages : Stmt := top 16
theorem sc_filled_stages : FnScope ["policy", "start", "found", "order", "at", "move", "goal"] ["policy"] (defScope s_filled_stages) := ⟨rfl, rfl, rfl, by decide +kernel, rfl, by decide +kernel, by decide +kernel⟩
def b_filled_stages : FS := (fSeq (fSet 1 (fTup (fCons (fK (.int 0)) (fCons (fO mulD (fTup (fCons (fK (.bl false)) fNil)) (fO ixE (fV 0) (fK (.int 0)))) fNil)))) (fSeq (fPar [2, 3] (fCons (fOr (fDict1N (fV 1) (fK .non)) (fDict1K (fV 1) (fK .non))) (fCons (fLst (fCons (fV 1) fNil)) fNil))) (fSeq (fSet 4 (fK (.int 0))) (fSeq (whileF (fB (fO ltD (fV 4) (fC lenE (fCons (fV 3) fNil)))) (fSeq (fFor (fSrc (fCall 2 m_any_moves (fCons (fV 0) (fCons (fO ixE (fV 3) (fV 4)) fNil)))) (gOr (gT 2 (gsCons (gN 5) (gsCons (gN 6) gsNil))) (gL 2 (gsCons (gN 5) (gsCons (gN 6) gsNil)))) (fIfS (fB (fO (inE true) (fV 6) (fV 2))) (fSeq (fAsg (fTup (fCons (fO ixE (fV 3) (fV 4)) (fCons (fV 5) fNil))) (gSE (fV 2) (fV 6))) (fDrop ((fM "list" appendD (fV 3) (fCons (fV 6) fNil))))) fEnd)) (fAug 4 (fun i j => i + j) (fK (.int 1)))) 1000000) (fRet (fV 2))))))
def m_filled_stages : FF := callF 7 b_filled_stages
/-! Memory.__init__ -/
abbrev s_Memory_init : Stmt := inClass (top 20) 0
theorem sc_Memory_init : FnScope ["self", "policy", "order", "at", "here", "stage", "edge", "move", "goal"] ["self", "policy"] (defScope s_Memory_init) := ⟨rfl, rfl, rfl, by decide +kernel, rfl, by decide +kernel, by decide +kernel⟩
def b_Memory_init : FS := (fSeq (fPut 0 "stages" (fV 0) (fCall 1 m_filled_stages (fCons (fV 1) fNil))) (fSeq (fPut 0 "starts" (fV 0) (lockEP (locF 0 "stages") (fCompD (fKeysN (fFld 0 "stages" (fV 0))) [5] (gN 5) (fB (fO (inE false) (fK (.bl true)) (fO ixE (fV 5) (fK (.int 1))))) (fCall 1 m_old_marks (fCons (fV 5) fNil)) (fV 5)))) (fSeq (fPut 0 "edges" (fV 0) (fDNew)) (fSeq (fSet 2 (fC lstG (fCons (fFld 0 "starts" (fV 0)) fNil))) (fSeq (fSet 3 (fK (.int 0))) (fSeq (whileF (fB (fO ltD (fV 3) (fC lenE (fCons (fV 2) fNil)))) (fSeq (fSet 4 (fO ixE (fV 2) (fV 3))) (fSeq (fIfS (fB (fO (inE true) (fV 4) (fFld 0 "edges" (fV 0)))) (fSeq (fAsg (fComp (fSrc (fCall 2 m_fresh_moves (fCons (fV 1) (fCons (fV 4) fNil)))) [6] (gN 6) (fTr (fCall 1 m_has_old (fCons (fO ixE (fV 6) (fK (.int 1))) fNil))) (fV 6)) (gSE (fFld 0 "edges" (fV 0)) (fV 4))) (fDrop ((fM "list" extendD (fV 2) (fCons (fComp (fSrc (fO ixE (fFld 0 "edges" (fV 0)) (fV 4))) [7, 8] (gOr (gT 2 (gsCons (gN 7) (gsCons (gN 8) gsNil))) (gL 2 (gsCons (gN 7) (gsCons (gN 8) gsNil)))) (fB (fO (inE true) (fV 8) (fFld 0 "edges" (fV 0)))) (fV 8)) fNil))))) fEnd) (fAug 3 (fun i j => i + j) (fK (.int 1))))) 1000000) (fSeq (fPut 0 "ranks" (fV 0) (fDNew)) (fDrop (fMeth 0 "rank_all" 1 m_Memory_rank_all (fV 0) fNil)))))))))
def m_Memory_init : FF := callF 9 b_Memory_init
/-! is_integer -/
abbrev s_is_integer : Stmt := top 7
theorem sc_is_integer : FnScope ["value"] ["value"] (defScope s_is_integer) := ⟨rfl, rfl, rfl, by decide +kernel, rfl, by decide +kernel, by decide +kernel⟩
def b_is_integer : FS := (fRet ((fAndV (fC isiD (fCons (fV 0) (fCons (fK (.ty "int")) fNil))) (fNotV (fC isiD (fCons (fV 0) (fCons (fK (.ty "bool")) fNil)))))))
def m_is_integer : FF := callF 1 b_is_integer
/-! is_between -/
abbrev s_is_between : Stmt := top 8
theorem sc_is_between : FnScope ["value", "least", "greatest"] ["value", "least", "greatest"] (defScope s_is_between) := ⟨rfl, rfl, rfl, by decide +kernel, rfl, by decide +kernel, by decide +kernel⟩
def b_is_between : FS := (fRet ((fAndV (fCall 1 m_is_integer (fCons (fV 0) fNil)) (fChain leD leD (fV 1) (fV 0) (fV 2)))))
def m_is_between : FF := callF 3 b_is_between
/-! is_row -/
abbrev s_is_row : Stmt := top 9
theorem sc_is_row : FnScope ["value", "lines", "states", "state"] ["value", "lines", "states"] (defScope s_is_row) := ⟨rfl, rfl, rfl, by decide +kernel, rfl, by decide +kernel, by decide +kernel⟩
def b_is_row : FS := (fSeq (fIfS ((fOrT (fNotT (fTr (fC isiD (fCons (fV 0) (fCons (fK (.ty "tuple")) fNil))))) (fOrT (fB (fO (eqD true) (fC lenE (fCons (fV 0) fNil)) (fK (.int 3)))) (fNotT (fTr (fCall 3 m_is_between (fCons (fO ixE (fV 0) (fK (.int 0))) (fCons (fK (.int 0)) (fCons (fO subD (fV 1) (fK (.int 1))) fNil))))))))) (fRet (fK (.bl false))) fEnd) (fSeq (fIfS ((fOrT (fNotT (fTr (fCall 3 m_is_between (fCons (fO ixE (fV 0) (fK (.int 1))) (fCons (fK (.int 0)) (fCons (fO subD (fV 2) (fK (.int 1))) fNil)))))) (fOrT (fNotT (fTr (fC isiD (fCons (fO ixE (fV 0) (fK (.int 2))) (fCons (fK (.ty "tuple")) fNil))))) (fB (fO (eqD true) (fC lenE (fCons (fO ixE (fV 0) (fK (.int 2))) fNil)) (fV 1)))))) (fRet (fK (.bl false))) fEnd) (fRet (fC allD (fCons (fComp (fSrc (fO ixE (fV 0) (fK (.int 2)))) [3] (gN 3) fYes (fCall 3 m_is_between (fCons (fV 3) (fCons (fK (.int 0)) (fCons (fO subD (fV 2) (fK (.int 1))) fNil))))) fNil)))))
def m_is_row : FF := callF 4 b_is_row
/-! is_policy -/
abbrev s_is_policy : Stmt := top 10
theorem sc_is_policy : FnScope ["value", "lines", "rows", "row"] ["value"] (defScope s_is_policy) := ⟨rfl, rfl, rfl, by decide +kernel, rfl, by decide +kernel, by decide +kernel⟩
def b_is_policy : FS := (fSeq (fIfS ((fOrT (fNotT (fTr (fC isiD (fCons (fV 0) (fCons (fK (.ty "tuple")) fNil))))) (fOrT (fB (fO (eqD true) (fC lenE (fCons (fV 0) fNil)) (fK (.int 2)))) (fNotT (fTr (fCall 3 m_is_between (fCons (fO ixE (fV 0) (fK (.int 0))) (fCons (fK (.int 1)) (fCons (fK c_MOST_LINES) fNil))))))))) (fRet (fK (.bl false))) fEnd) (fSeq (fAsg (fV 0) (gOr (gT 2 (gsCons (gN 1) (gsCons (gN 2) gsNil))) (gL 2 (gsCons (gN 1) (gsCons (gN 2) gsNil))))) (fSeq (fIfS ((fOrT (fNotT (fTr (fC isiD (fCons (fV 2) (fCons (fK (.ty "tuple")) fNil))))) (fNotT (fB (fChain leD leD (fK (.int 1)) (fC lenE (fCons (fV 2) fNil)) (fK c_MOST_STATES)))))) (fRet (fK (.bl false))) fEnd) (fRet (fC allD (fCons (fComp (fSrc (fV 2)) [3] (gN 3) fYes (fCall 3 m_is_row (fCons (fV 3) (fCons (fV 1) (fCons (fC lenE (fCons (fV 2) fNil)) fNil))))) fNil))))))
def m_is_policy : FF := callF 4 b_is_policy
/-! check_policy -/
abbrev s_check_policy : Stmt := top 11
theorem sc_check_policy : FnScope ["policy"] ["policy"] (defScope s_check_policy) := ⟨rfl, rfl, rfl, by decide +kernel, rfl, by decide +kernel, by decide +kernel⟩
def b_check_policy : FS := (fIfS (fNotT (fTr (fCall 1 m_is_policy (fCons (fV 0) fNil)))) (fNo) fEnd)
def m_check_policy : FF := callF 1 b_check_policy
/-! forgets -/
abbrev s_forgets : Stmt := top 21
theorem sc_forgets : FnScope ["policy", "memory"] ["policy"] (defScope s_forgets) := ⟨rfl, rfl, rfl, by decide +kernel, rfl, by decide +kernel, by decide +kernel⟩
def b_forgets : FS := (fSeq (fDrop (fCall 1 m_check_policy (fCons (fV 0) fNil))) (fSeq (fSet 1 (fMake 0 2 m_Memory_init (fCons (fV 0) fNil))) (fRet (fIf (fTr (fMeth 0 "is_endless" 1 m_Memory_is_endless (fV 1) fNil)) (fK .non) (fO addD (fK (.int 1)) (fO ixE (fFld 0 "ranks" (fV 1)) (fMeth 0 "longest" 1 m_Memory_longest (fV 1) fNil)))))))
def m_forgets : FF := callF 2 b_forgets
/-! _law_later -/
abbrev s__law_later : Stmt := top 31
theorem sc__law_later : FnScope ["_law_table_here", "_law_spot", "_law_lines", "_law_rows", "_law_state", "_law_marks", "_law_victim", "_law_behind", "_law_hits", "_law_goals", "_law_line"] ["_law_table_here", "_law_spot"] (defScope s__law_later) := ⟨rfl, rfl, rfl, by decide +kernel, rfl, by decide +kernel, by decide +kernel⟩
def b__law_later : FS := (fSeq (fAsg (fV 0) (gOr (gT 2 (gsCons (gN 2) (gsCons (gN 3) gsNil))) (gL 2 (gsCons (gN 2) (gsCons (gN 3) gsNil))))) (fSeq (fAsg (fV 1) (gOr (gT 2 (gsCons (gN 4) (gsCons (gN 5) gsNil))) (gL 2 (gsCons (gN 4) (gsCons (gN 5) gsNil))))) (fSeq (fAsg (fO ixE (fV 3) (fV 4)) (gOr (gT 3 (gsCons (gN 6) (gsCons (gN 7) (gsCons (gN 8) gsNil)))) (gL 3 (gsCons (gN 6) (gsCons (gN 7) (gsCons (gN 8) gsNil)))))) (fSeq (fSet 9 (fComp (fRng1 (fV 2)) [10] (gN 10) (fB (fO (eqD false) (fO ixE (fV 5) (fV 10)) (fK (.int 1)))) (fTup (fCons (fV 10) (fCons (fTup (fCons (fO ixE (fV 8) (fV 10)) (fCons (fO addD (fO addD (fSl (fV 5) fNoP (fP (fV 10))) (fTup (fCons (fK (.int 0)) fNil))) (fSl (fV 5) (fP (fO addD (fV 10) (fK (.int 1)))) fNoP)) fNil))) fNil))))) (fRet (fO addD (fV 9) (fLst (fCons (fTup (fCons (fV 2) (fCons (fTup (fCons (fV 7) (fCons (fO addD (fO addD (fSl (fV 5) fNoP (fP (fV 6))) (fTup (fCons (fK (.int 0)) fNil))) (fSl (fV 5) (fP (fO addD (fV 6) (fK (.int 1)))) fNoP)) fNil))) fNil))) fNil))))))))
def m__law_later : FF := callF 11 b__law_later
/-! _law_begun -/
abbrev s__law_begun : Stmt := top 30
theorem sc__law_begun : FnScope ["_law_table_here", "_law_lines", "_law_rows", "_law_begin", "_law_ways", "_law_queue_here", "_law_at", "_law_state", "_law_filled", "_law_victim", "_law_behind", "_law_hits", "_law_goals", "_law_move", "_law_goal", "_law_line"] ["_law_table_here"] (defScope s__law_begun) := ⟨rfl, rfl, rfl, by decide +kernel, rfl, by decide +kernel, by decide +kernel⟩
def b__law_begun : FS := (fSeq (fAsg (fV 0) (gOr (gT 2 (gsCons (gN 1) (gsCons (gN 2) gsNil))) (gL 2 (gsCons (gN 1) (gsCons (gN 2) gsNil))))) (fSeq (fSet 3 (fTup (fCons (fK (.int 0)) (fCons (fO mulD (fTup (fCons (fK (.bl false)) fNil)) (fV 1)) fNil)))) (fSeq (fPar [4, 5, 6] (fCons (fOr (fDict1N (fV 3) (fTup fNil)) (fDict1K (fV 3) (fTup fNil))) (fCons (fLst (fCons (fV 3) fNil)) (fCons (fK (.int 0)) fNil)))) (fSeq (whileF (fB (fO ltD (fV 6) (fC lenE (fCons (fV 5) fNil)))) (fSeq (fAsg (fO ixE (fV 5) (fV 6)) (gOr (gT 2 (gsCons (gN 7) (gsCons (gN 8) gsNil))) (gL 2 (gsCons (gN 7) (gsCons (gN 8) gsNil))))) (fSeq (fAsg (fO ixE (fV 2) (fV 7)) (gOr (gT 3 (gsCons (gN 9) (gsCons (gN 10) (gsCons (gN 11) gsNil)))) (gL 3 (gsCons (gN 9) (gsCons (gN 10) (gsCons (gN 11) gsNil)))))) (fSeq (fSet 12 (fComp (fRng1 (fV 1)) [15] (gN 15) (fTr (fO ixE (fV 8) (fV 15))) (fTup (fCons (fV 15) (fCons (fTup (fCons (fO ixE (fV 11) (fV 15)) (fCons (fV 8) fNil))) fNil))))) (fSeq (fDrop ((fM "list" appendD (fV 12) (fCons (fTup (fCons (fV 1) (fCons (fTup (fCons (fV 10) (fCons (fO addD (fO addD (fSl (fV 8) fNoP (fP (fV 9))) (fTup (fCons (fK (.bl true)) fNil))) (fSl (fV 8) (fP (fO addD (fV 9) (fK (.int 1)))) fNoP)) fNil))) fNil))) fNil)))) (fSeq (fFor (fSrc (fV 12)) (gOr (gT 2 (gsCons (gN 13) (gsCons (gN 14) gsNil))) (gL 2 (gsCons (gN 13) (gsCons (gN 14) gsNil)))) (fIfS (fB (fO (inE true) (fV 14) (fV 4))) (fSeq (fAsg (fO addD (fO ixE (fV 4) (fO ixE (fV 5) (fV 6))) (fTup (fCons (fV 13) fNil))) (gSE (fV 4) (fV 14))) (fDrop ((fM "list" appendD (fV 5) (fCons (fV 14) fNil))))) fEnd)) (fSet 6 (fO addD (fV 6) (fK (.int 1))))))))) 1000000) (fRet (fV 4))))))
def m__law_begun : FF := callF 16 b__law_begun
/-! _law_starts -/
abbrev s__law_starts : Stmt := top 32
theorem sc__law_starts : FnScope ["_law_table_here", "_law_found", "_law_state", "_law_filled", "_law_mark"] ["_law_table_here"] (defScope s__law_starts) := ⟨rfl, rfl, rfl, by decide +kernel, rfl, by decide +kernel, by decide +kernel⟩
def b__law_starts : FS := (fSeq (fSet 1 (fLst fNil)) (fSeq (fFor (fKeysT (fCall 1 m__law_begun (fCons (fV 0) fNil))) (gOr (gT 2 (gsCons (gN 2) (gsCons (gN 3) gsNil))) (gL 2 (gsCons (gN 2) (gsCons (gN 3) gsNil)))) (fIfS (fB (fO (inE false) (fK (.bl true)) (fV 3))) (fDrop ((fM "list" appendD (fV 1) (fCons (fTup (fCons (fV 2) (fCons (fC tupD (fCons (fComp (fSrc (fV 3)) [4] (gN 4) fYes (fIf (fTr (fV 4)) (fK (.int 1)) (fK .non))) fNil)) fNil))) fNil)))) fEnd)) (fRet (fV 1))))
def m__law_starts : FF := callF 5 b__law_starts
/-! _law_forgotten -/
abbrev s__law_forgotten : Stmt := top 33
theorem sc__law_forgotten : FnScope ["_law_table_here", "_law_layer", "_law_many", "_law_known", "_law_spot", "_law_move", "_law_goal"] ["_law_table_here"] (defScope s__law_forgotten) := ⟨rfl, rfl, rfl, by decide +kernel, rfl, by decide +kernel, by decide +kernel⟩
def b__law_forgotten : FS := (fSeq (fPar [1, 2] (fCons (fCall 1 m__law_starts (fCons (fV 0) fNil)) (fCons (fK (.int 0)) fNil))) (fSeq (whileF (fB (fO (eqD true) (fV 1) (fLst fNil))) (fSeq (fSet 2 (fO addD (fV 2) (fK (.int 1)))) (fSeq (fIfS (fB (fO gtD (fV 2) (fO addD (fO mulD (fC lenE (fCons (fO ixE (fV 0) (fK (.int 1))) fNil)) (fO ixE (fLst (fCons (fK (.int 3)) (fCons (fK (.int 9)) (fCons (fK (.int 27)) (fCons (fK (.int 81)) fNil))))) (fO subD (fO ixE (fV 0) (fK (.int 0))) (fK (.int 1))))) (fK (.int 1))))) (fRet (fK .non)) fEnd) (fSeq (fSet 3 (fDNew)) (fSeq (fFor (fSrc (fV 1)) (gN 4) (fFor (fSrc (fCall 2 m__law_later (fCons (fV 0) (fCons (fV 4) fNil)))) (gOr (gT 2 (gsCons (gN 5) (gsCons (gN 6) gsNil))) (gL 2 (gsCons (gN 5) (gsCons (gN 6) gsNil)))) (fIfS (fB (fO (inE false) (fK (.int 1)) (fO ixE (fV 6) (fK (.int 1))))) (fAsg (fK (.bl true)) (gSE (fV 3) (fV 6))) fEnd))) (fSet 1 (fC lstG (fCons (fV 3) fNil))))))) 1000000) (fRet (fV 2))))
def m__law_forgotten : FF := callF 7 b__law_forgotten
/-! _law_asked -/
abbrev s__law_asked : Stmt := top 34
theorem sc__law_asked : FnScope ["_law_table_here"] ["_law_table_here"] (defScope s__law_asked) := ⟨rfl, rfl, rfl, by decide +kernel, rfl, by decide +kernel, by decide +kernel⟩
def b__law_asked : FS := (fRet (fO (eqD false) (fC reprE (fCons (fLst (fCons (fCall 1 m_forgets (fCons (fV 0) fNil)) (fCons (fCallK 1 1 [0] m_forgets (fCons (fV 0) fNil)) (fCons (fCall 1 m_forgets (fCons (fV 0) fNil)) fNil)))) fNil)) (fC reprE (fCons (fO mulD (fLst (fCons (fCall 1 m__law_forgotten (fCons (fV 0) fNil)) fNil)) (fK (.int 3))) fNil))))
def m__law_asked : FF := callF 1 b__law_asked
/-! _law_draw -/
abbrev s__law_draw : Stmt := top 25
theorem sc__law_draw : FnScope ["_law_pool_here", "_law_most", "_law_state", "_law_digit"] ["_law_pool_here", "_law_most"] (defScope s__law_draw) := ⟨rfl, rfl, rfl, by decide +kernel, rfl, by decide +kernel, by decide +kernel⟩
def b__law_draw : FS := (fSeq (fAsg (fO addD (fO ixE (fV 0) (fK (.int 2))) (fK (.int 1))) (gSE (fV 0) (fK (.int 2)))) (fSeq (fSet 2 (fC intD (fCons (fO ixE (fV 0) (fK (.int 0))) fNil))) (fSeq (fAsg (fO modD (fO addD (fO mulD (fV 2) (fO addD (fO modD (fV 2) (fK (.int 50021))) (fK (.int 30011)))) (fO mulD (fK (.int 80021)) (fO ixE (fV 0) (fK (.int 2))))) (fK (.int 2147483249))) (gSE (fV 0) (fK (.int 0)))) (fSeq (fIfS (fB (fO gtD (fO ixE (fV 0) (fK (.int 1))) (fK (.int 0)))) (fSeq (fAsg (fC divmodD (fCons (fO ixE (fV 0) (fK (.int 1))) (fCons (fV 1) fNil))) (gOr (gT 2 (gsCons (gSE (fV 0) (fK (.int 1))) (gsCons (gN 3) gsNil))) (gL 2 (gsCons (gSE (fV 0) (fK (.int 1))) (gsCons (gN 3) gsNil))))) (fRet (fV 3))) fEnd) (fRet (fO modD (fO fdivD (fO ixE (fV 0) (fK (.int 0))) (fK (.int 64))) (fV 1)))))))
def m__law_draw : FF := callF 4 b__law_draw
/-! _law_policy -/
abbrev s__law_policy : Stmt := top 26
theorem sc__law_policy : FnScope ["_law_pool_here", "_law_lines", "_law_states", "_law_rows", "_law_turn", "_law_hits", "_law_line"] ["_law_pool_here", "_law_lines", "_law_states"] (defScope s__law_policy) := ⟨rfl, rfl, rfl, by decide +kernel, rfl, by decide +kernel, by decide +kernel⟩
def b__law_policy : FS := (fSeq (fSet 3 (fLst fNil)) (fSeq (fFor (fRng1 (fV 2)) (gN 4) (fSeq (fSet 5 (fC tupD (fCons (fComp (fRng1 (fV 1)) [6] (gN 6) fYes (fCall 2 m__law_draw (fCons (fV 0) (fCons (fV 2) fNil)))) fNil))) (fDrop ((fM "list" appendD (fV 3) (fCons (fTup (fCons (fCall 2 m__law_draw (fCons (fV 0) (fCons (fV 1) fNil))) (fCons (fCall 2 m__law_draw (fCons (fV 0) (fCons (fV 2) fNil))) (fCons (fV 5) fNil)))) fNil)))))) (fRet (fTup (fCons (fV 1) (fCons (fC tupD (fCons (fV 3) fNil)) fNil))))))
def m__law_policy : FF := callF 7 b__law_policy
/-! _law_queue -/
abbrev s__law_queue : Stmt := top 28
theorem sc__law_queue : FnScope ["_law_lines", "_law_at"] ["_law_lines"] (defScope s__law_queue) := ⟨rfl, rfl, rfl, by decide +kernel, rfl, by decide +kernel, by decide +kernel⟩
def b__law_queue : FS := (fRet (fTup (fCons (fV 0) (fCons (fC tupD (fCons (fComp (fRng1 (fV 0)) [1] (gN 1) fYes (fTup (fCons (fV 1) (fCons (fO modD (fO addD (fV 1) (fK (.int 1))) (fV 0)) (fCons (fO mulD (fTup (fCons (fV 1) fNil)) (fV 0)) fNil))))) fNil)) fNil))))
def m__law_queue : FF := callF 2 b__law_queue
/-! _law_recent -/
abbrev s__law_recent : Stmt := top 27
theorem sc__law_recent : FnScope ["_law_lines", "_law_orders", "_law_rows", "_law_at", "_law_here", "_law_goals", "_law_line", "_law_spot", "_law_goal"] ["_law_lines"] (defScope s__law_recent) := ⟨rfl, rfl, rfl, by decide +kernel, rfl, by decide +kernel, by decide +kernel⟩
def b__law_recent : FS := (fSeq (fAsg (fTup (fCons (fLst (fCons (fTupR (fRg1 (fV 0))) fNil)) (fCons (fLst fNil) (fCons (fK (.int 0)) fNil)))) (gOr (gT 3 (gsCons (gN 1) (gsCons (gN 2) (gsCons (gN 3) gsNil)))) (gL 3 (gsCons (gN 1) (gsCons (gN 2) (gsCons (gN 3) gsNil)))))) (fSeq (whileF (fB (fO ltD (fV 3) (fC lenE (fCons (fV 1) fNil)))) (fSeq (fSet 4 (fO ixE (fV 1) (fV 3))) (fSeq (fSet 5 (fComp (fRng1 (fV 0)) [6] (gN 6) fYes (fO addD (fC tupD (fCons (fComp (fSrc (fV 4)) [7] (gN 7) (fB (fO (eqD true) (fV 7) (fV 6))) (fV 7)) fNil)) (fTup (fCons (fV 6) fNil))))) (fSeq (fDrop ((fM "list" extendD (fV 1) (fCons (fComp (fSrc (fV 5)) [8] (gN 8) (fB (fO (inE true) (fV 8) (fV 1))) (fV 8)) fNil)))) (fSeq (fDrop ((fM "list" appendD (fV 2) (fCons (fTup (fCons (fO ixE (fV 4) (fK (.int 0))) (fCons (fOr (fM "list" indexD (fV 1) (fCons (fO ixE (fV 5) (fO ixE (fV 4) (fK (.int 0)))) fNil)) (fM "tuple" tindexD (fV 1) (fCons (fO ixE (fV 5) (fO ixE (fV 4) (fK (.int 0)))) fNil))) (fCons (fC tupD (fCons (fComp (fSrc (fV 5)) [8] (gN 8) fYes (fOr (fM "list" indexD (fV 1) (fCons (fV 8) fNil)) (fM "tuple" tindexD (fV 1) (fCons (fV 8) fNil)))) fNil)) fNil)))) fNil)))) (fSet 3 (fO addD (fV 3) (fK (.int 1)))))))) 1000000) (fRet (fTup (fCons (fV 0) (fCons (fC tupD (fCons (fV 2) fNil)) fNil))))))
def m__law_recent : FF := callF 9 b__law_recent
/-! _law_table -/
abbrev s__law_table : Stmt := top 29
theorem sc__law_table : FnScope ["_law_pool_here", "_law_lines", "_law_some", "_law_drawn"] ["_law_pool_here"] (defScope s__law_table) := ⟨rfl, rfl, rfl, by decide +kernel, rfl, by decide +kernel, by decide +kernel⟩
def b__law_table : FS := (fSeq (fSet 1 (fO addD (fK (.int 1)) (fCall 2 m__law_draw (fCons (fV 0) (fCons (fK (.int 3)) fNil))))) (fSeq (fSet 2 (fLst (fCons (fCall 1 m__law_recent (fCons (fV 1) fNil)) (fCons (fCall 1 m__law_queue (fCons (fV 1) fNil)) fNil)))) (fSeq (fSet 3 (fCall 3 m__law_policy (fCons (fV 0) (fCons (fV 1) (fCons (fO addD (fK (.int 1)) (fCall 2 m__law_draw (fCons (fV 0) (fCons (fK (.int 5)) fNil)))) fNil))))) (fRet (fO ixE (fO addD (fV 2) (fO mulD (fLst (fCons (fV 3) fNil)) (fK (.int 5)))) (fCall 2 m__law_draw (fCons (fV 0) (fCons (fK (.int 7)) fNil))))))))
def m__law_table : FF := callF 4 b__law_table
/-! _law_right -/
abbrev s__law_right : Stmt := top 35
theorem sc__law_right : FnScope ["_law_pool_here", "_law_tables", "_law_turn", "_law_table_here"] ["_law_pool_here"] (defScope s__law_right) := ⟨rfl, rfl, rfl, by decide +kernel, rfl, by decide +kernel, by decide +kernel⟩
def b__law_right : FS := (fSeq (fSet 1 (fO addD (fComp (fRng1 (fK (.int 3))) [2] (gN 2) fYes (fCall 1 m__law_table (fCons (fV 0) fNil))) (fLst (fCons (fCall 3 m__law_policy (fCons (fV 0) (fCons (fK (.int 4)) (fCons (fO addD (fK (.int 1)) (fCall 2 m__law_draw (fCons (fV 0) (fCons (fK (.int 3)) fNil)))) fNil)))) fNil)))) (fRet (fC allD (fCons (fComp (fSrc (fV 1)) [3] (gN 3) fYes (fCall 1 m__law_asked (fCons (fV 3) fNil))) fNil))))
def m__law_right : FF := callF 4 b__law_right
/-! _law_pool -/
abbrev s__law_pool : Stmt := top 24
theorem sc__law_pool : FnScope ["_law_figure", "_law_digits"] ["_law_figure"] (defScope s__law_pool) := ⟨rfl, rfl, rfl, by decide +kernel, rfl, by decide +kernel, by decide +kernel⟩
def b__law_pool : FS := (fSeq (fSet 1 (fIf ((fOrT (fB (fO ltD (fV 0) (fK (.int 0)))) (fB (fO geD (fV 0) (fO powD (fK (.int 10)) (fK (.int 18))))))) (fC absD (fCons (fV 0) fNil)) (fK (.int 0)))) (fRet (fLst (fCons (fO modD (fC intD (fCons (fV 0) fNil)) (fK (.int 2147483249))) (fCons (fV 1) (fCons (fK (.int 0)) fNil))))))
def m__law_pool : FF := callF 2 b__law_pool
/-! _law_cell -/
abbrev s__law_cell : Stmt := top 23
theorem sc__law_cell : FnScope ["_law_script", "_law_k", "_law_state", "_law_figure"] ["_law_script", "_law_k"] (defScope s__law_cell) := ⟨rfl, rfl, rfl, by decide +kernel, rfl, by decide +kernel, by decide +kernel⟩
def b__law_cell : FS := (fSeq (fIfS (fB (fO ltD (fV 1) (fC lenE (fCons (fV 0) fNil)))) (fRet (fC intD (fCons (fO ixE (fV 0) (fV 1)) fNil))) fEnd) (fSeq (fSet 2 (fO modD (fO mulD (fK (.int 60013)) (fO addD (fO addD (fO mulD (fV 1) (fV 1)) (fO mulD (fK (.int 5)) (fV 1))) (fK (.int 3)))) (fK (.int 2147483249)))) (fSeq (fFor (fSrc (fSl (fV 0) fNoP (fP (fK (.int 3))))) (gN 3) (fSet 2 (fO modD (fO addD (fO mulD (fV 2) (fK (.int 41221))) (fC intD (fCons (fV 3) fNil))) (fK (.int 2147483249))))) (fRet (fV 2)))))
def m__law_cell : FF := callF 4 b__law_cell
/-! _law_seldom -/
abbrev s__law_seldom : Stmt := top 38
theorem sc__law_seldom : FnScope ["_law_at"] [] (defScope s__law_seldom) := ⟨rfl, rfl, rfl, by decide +kernel, rfl, by decide +kernel, by decide +kernel⟩
def b__law_seldom : FS := (fRet (fTup (fCons (fK (.int 2)) (fCons (fC tupD (fCons (fComp (fRng1 (fK (.int 64))) [0] (gN 0) fYes (fTup (fCons (fC intD (fCons (fO (eqD false) (fV 0) (fK (.int 63))) fNil)) (fCons (fO modD (fO addD (fV 0) (fK (.int 1))) (fK (.int 64))) (fCons (fTup (fCons (fV 0) (fCons (fV 0) fNil))) fNil))))) fNil)) fNil))))
def m__law_seldom : FF := callF 1 b__law_seldom
/-! _law_blocks -/
abbrev s__law_blocks : Stmt := top 36
theorem sc__law_blocks : FnScope ["_law_many", "_law_rows", "_law_at"] ["_law_many"] (defScope s__law_blocks) := ⟨rfl, rfl, rfl, by decide +kernel, rfl, by decide +kernel, by decide +kernel⟩
def b__law_blocks : FS := (fSeq (fSet 1 (fComp (fRng1 (fO mulD (fK (.int 4)) (fV 0))) [2] (gN 2) fYes (fTup (fCons (fO fdivD (fV 2) (fV 0)) (fCons (fO modD (fO addD (fV 2) (fK (.int 1))) (fO mulD (fK (.int 4)) (fV 0))) (fCons (fO mulD (fTup (fCons (fV 2) fNil)) (fK (.int 4))) fNil)))))) (fRet (fTup (fCons (fK (.int 4)) (fCons (fC tupD (fCons (fV 1) fNil)) fNil)))))
def m__law_blocks : FF := callF 3 b__law_blocks
/-! _law_lasting -/
abbrev s__law_lasting : Stmt := top 37
theorem sc__law_lasting : FnScope ["_law_rows", "_law_at"] [] (defScope s__law_lasting) := ⟨rfl, rfl, rfl, by decide +kernel, rfl, by decide +kernel, by decide +kernel⟩
def b__law_lasting : FS := (fSeq (fSet 0 (fComp (fRng1 (fK (.int 64))) [1] (gN 1) fYes (fTup (fCons (fO ixE (fTup (fCons (fK (.int 3)) (fCons (fK (.int 0)) (fCons (fK (.int 1)) (fCons (fK (.int 2)) fNil))))) (fO fdivD (fV 1) (fK (.int 16)))) (fCons (fIf (fB (fO ltD (fV 1) (fK (.int 63)))) (fO addD (fV 1) (fK (.int 1))) (fK (.int 16))) (fCons (fO mulD (fTup (fCons (fV 1) fNil)) (fK (.int 4))) fNil)))))) (fRet (fTup (fCons (fK (.int 4)) (fCons (fC tupD (fCons (fV 0) fNil)) fNil)))))
def m__law_lasting : FF := callF 2 b__law_lasting
/-! law -/
abbrev s_law : Stmt := top 39
theorem sc_law : FnScope ["_law_script", "_law_some", "_law_many", "_law_lines", "_law_due", "_law_table_here", "_law_k"] ["_law_script"] (defScope s_law) := ⟨rfl, rfl, rfl, by decide +kernel, rfl, by decide +kernel, by decide +kernel⟩
def b_law : FS := (fSeq (fIfS ((fOrT (fB (fO (eqD true) (fComp (fSrc (fLst (fCons (fK (.int 1)) (fCons (fK (.int 2)) (fCons (fK (.int 5)) (fCons (fK (.int 16)) fNil)))))) [2] (gN 2) fYes (fCall 1 m_forgets (fCons (fCall 1 m__law_blocks (fCons (fV 2) fNil)) fNil))) (fLst (fCons (fK (.int 7)) (fCons (fK (.int 10)) (fCons (fK (.int 19)) (fCons (fK (.int 52)) fNil))))))) (fB (fO (isE true) (fCall 1 m_forgets (fCons (fCall 0 m__law_lasting fNil) fNil)) (fK .non))))) (fRet (fK (.bl false))) fEnd) (fSeq (fIfS (fB (fO (eqD true) (fCall 1 m_forgets (fCons (fCall 0 m__law_seldom fNil) fNil)) (fK (.int 65)))) (fRet (fK (.bl false))) fEnd) (fSeq (fIfS (fB (fO (eqD true) (fComp (fSrc (fLst (fCons (fK (.int 1)) (fCons (fK (.int 2)) (fCons (fK (.int 3)) (fCons (fK (.int 4)) fNil)))))) [3] (gN 3) fYes (fCall 1 m_forgets (fCons (fCall 1 m__law_recent (fCons (fV 3) fNil)) fNil))) (fLst (fCons (fK (.int 1)) (fCons (fK (.int 2)) (fCons (fK (.int 3)) (fCons (fK (.int 4)) fNil))))))) (fRet (fK (.bl false))) fEnd) (fSeq (fIfS (fB (fO (eqD true) (fComp (fSrc (fLst (fCons (fK (.int 1)) (fCons (fK (.int 2)) (fCons (fK (.int 3)) (fCons (fK (.int 4)) fNil)))))) [3] (gN 3) fYes (fCall 1 m_forgets (fCons (fCall 1 m__law_queue (fCons (fV 3) fNil)) fNil))) (fLst (fCons (fK (.int 1)) (fCons (fK (.int 3)) (fCons (fK (.int 5)) (fCons (fK (.int 7)) fNil))))))) (fRet (fK (.bl false))) fEnd) (fSeq (fSet 1 (fLst (fCons (fTup (fCons (fK (.int 1)) (fCons (fTup (fCons (fK (.int 3)) (fCons (fTup (fCons (fTup (fCons (fK (.int 2)) (fCons (fK (.int 0)) (fCons (fTup (fCons (fK (.int 0)) (fCons (fK (.int 0)) (fCons (fK (.int 0)) fNil)))) fNil)))) fNil)) fNil))) fNil))) (fCons (fTup (fCons (fK .non) (fCons (fTup (fCons (fK (.int 2)) (fCons (fTup (fCons (fTup (fCons (fK (.int 0)) (fCons (fK (.int 1)) (fCons (fTup (fCons (fK (.int 0)) (fCons (fK (.int 0)) fNil))) fNil)))) (fCons (fTup (fCons (fK (.int 1)) (fCons (fK (.int 1)) (fCons (fTup (fCons (fK (.int 1)) (fCons (fK (.int 1)) fNil))) fNil)))) fNil))) fNil))) fNil))) fNil)))) (fSeq (fDrop ((fM "list" appendD (fV 1) (fCons (fTup (fCons (fK .non) (fCons (fTup (fCons (fK (.int 2)) (fCons (fTup (fCons (fTup (fCons (fK (.int 0)) (fCons (fK (.int 1)) (fCons (fTup (fCons (fK (.int 0)) (fCons (fK (.int 0)) fNil))) fNil)))) (fCons (fTup (fCons (fK (.int 1)) (fCons (fK (.int 2)) (fCons (fTup (fCons (fK (.int 1)) (fCons (fK (.int 1)) fNil))) fNil)))) (fCons (fTup (fCons (fK (.int 1)) (fCons (fK (.int 2)) (fCons (fTup (fCons (fK (.int 3)) (fCons (fK (.int 2)) fNil))) fNil)))) (fCons (fTup (fCons (fK (.int 0)) (fCons (fK (.int 3)) (fCons (fTup (fCons (fK (.int 3)) (fCons (fK (.int 2)) fNil))) fNil)))) fNil))))) fNil))) fNil))) fNil)))) (fSeq (fSet 1 (fO addD (fV 1) (fLst (fCons (fTup (fCons (fK (.int 2)) (fCons (fTup (fCons (fK (.int 2)) (fCons (fTup (fCons (fTup (fCons (fK (.int 0)) (fCons (fK (.int 1)) (fCons (fTup (fCons (fK (.int 1)) (fCons (fK (.int 0)) fNil))) fNil)))) (fCons (fTup (fCons (fK (.int 1)) (fCons (fK (.int 0)) (fCons (fTup (fCons (fK (.int 1)) (fCons (fK (.int 0)) fNil))) fNil)))) fNil))) fNil))) fNil))) (fCons (fTup (fCons (fK (.int 3)) (fCons (fTup (fCons (fK (.int 2)) (fCons (fTup (fCons (fTup (fCons (fK (.int 1)) (fCons (fK (.int 1)) (fCons (fTup (fCons (fK (.int 0)) (fCons (fK (.int 0)) fNil))) fNil)))) (fCons (fTup (fCons (fK (.int 0)) (fCons (fK (.int 0)) (fCons (fTup (fCons (fK (.int 1)) (fCons (fK (.int 1)) fNil))) fNil)))) fNil))) fNil))) fNil))) fNil))))) (fSeq (fIfS (fB (fO (eqD true) (fComp (fSrc (fV 1)) [4, 5] (gOr (gT 2 (gsCons (gN 4) (gsCons (gN 5) gsNil))) (gL 2 (gsCons (gN 4) (gsCons (gN 5) gsNil)))) fYes (fCall 1 m_forgets (fCons (fV 5) fNil))) (fComp (fSrc (fV 1)) [4, 5] (gOr (gT 2 (gsCons (gN 4) (gsCons (gN 5) gsNil))) (gL 2 (gsCons (gN 4) (gsCons (gN 5) gsNil)))) fYes (fV 4)))) (fRet (fK (.bl false))) fEnd) (fRet (fC allD (fCons (fComp (fRng1 (fC maxD (fCons (fK (.int 2)) (fCons (fC minD (fCons (fC lenE (fCons (fV 0) fNil)) (fCons (fK (.int 6)) fNil))) fNil)))) [6] (gN 6) fYes (fCall 1 m__law_right (fCons (fCall 1 m__law_pool (fCons (fCall 2 m__law_cell (fCons (fV 0) (fCons (fV 6) fNil))) fNil)) fNil))) fNil)))))))))))
def m_law : FF := callF 7 b_law
structure Top (K : Frg) (mg : Str → Option Value) where
  C_Memory : Addr
  f_Memory_is_endless : Addr
  d_Memory_is_endless : FuncData
  F_Memory_is_endless : Fun K "is_endless" "Memory.is_endless" s_Memory_is_endless f_Memory_is_endless d_Memory_is_endless
  b_Memory_is_endless : Binds K d_Memory_is_endless ["self"] []
  me_Memory_is_endless : Meth K C_Memory "is_endless" f_Memory_is_endless
  f_Memory_longest : Addr
  d_Memory_longest : FuncData
  F_Memory_longest : Fun K "longest" "Memory.longest" s_Memory_longest f_Memory_longest d_Memory_longest
  b_Memory_longest : Binds K d_Memory_longest ["self"] []
  me_Memory_longest : Meth K C_Memory "longest" f_Memory_longest
  f_Memory_rank_all : Addr
  d_Memory_rank_all : FuncData
  F_Memory_rank_all : Fun K "rank_all" "Memory.rank_all" s_Memory_rank_all f_Memory_rank_all d_Memory_rank_all
  b_Memory_rank_all : Binds K d_Memory_rank_all ["self"] []
  me_Memory_rank_all : Meth K C_Memory "rank_all" f_Memory_rank_all
  f_put_at : Addr
  d_put_at : FuncData
  F_put_at : Fun K "put_at" "put_at" s_put_at f_put_at d_put_at
  b_put_at : Binds K d_put_at ["row", "index", "value"] []
  m_put_at : mg "put_at" = some (.ref f_put_at)
  f_fresh_moves : Addr
  d_fresh_moves : FuncData
  F_fresh_moves : Fun K "fresh_moves" "fresh_moves" s_fresh_moves f_fresh_moves d_fresh_moves
  b_fresh_moves : Binds K d_fresh_moves ["policy", "here"] []
  m_fresh_moves : mg "fresh_moves" = some (.ref f_fresh_moves)
  f_has_old : Addr
  d_has_old : FuncData
  F_has_old : Fun K "has_old" "has_old" s_has_old f_has_old d_has_old
  b_has_old : Binds K d_has_old ["here"] []
  m_has_old : mg "has_old" = some (.ref f_has_old)
  f_old_marks : Addr
  d_old_marks : FuncData
  F_old_marks : Fun K "old_marks" "old_marks" s_old_marks f_old_marks d_old_marks
  b_old_marks : Binds K d_old_marks ["stage"] []
  m_old_marks : mg "old_marks" = some (.ref f_old_marks)
  f_any_moves : Addr
  d_any_moves : FuncData
  F_any_moves : Fun K "any_moves" "any_moves" s_any_moves f_any_moves d_any_moves
  b_any_moves : Binds K d_any_moves ["policy", "stage"] []
  m_any_moves : mg "any_moves" = some (.ref f_any_moves)
  f_filled_stages : Addr
  d_filled_stages : FuncData
  F_filled_stages : Fun K "filled_stages" "filled_stages" s_filled_stages f_filled_stages d_filled_stages
  b_filled_stages : Binds K d_filled_stages ["policy"] []
  m_filled_stages : mg "filled_stages" = some (.ref f_filled_stages)
  f_Memory_init : Addr
  d_Memory_init : FuncData
  F_Memory_init : Fun K "__init__" "Memory.__init__" s_Memory_init f_Memory_init d_Memory_init
  b_Memory_init : Binds K d_Memory_init ["self", "policy"] []
  mk_Memory : Mk K C_Memory f_Memory_init
  f_is_integer : Addr
  d_is_integer : FuncData
  F_is_integer : Fun K "is_integer" "is_integer" s_is_integer f_is_integer d_is_integer
  b_is_integer : Binds K d_is_integer ["value"] []
  m_is_integer : mg "is_integer" = some (.ref f_is_integer)
  f_is_between : Addr
  d_is_between : FuncData
  F_is_between : Fun K "is_between" "is_between" s_is_between f_is_between d_is_between
  b_is_between : Binds K d_is_between ["value", "least", "greatest"] []
  m_is_between : mg "is_between" = some (.ref f_is_between)
  f_is_row : Addr
  d_is_row : FuncData
  F_is_row : Fun K "is_row" "is_row" s_is_row f_is_row d_is_row
  b_is_row : Binds K d_is_row ["value", "lines", "states"] []
  m_is_row : mg "is_row" = some (.ref f_is_row)
  f_is_policy : Addr
  d_is_policy : FuncData
  F_is_policy : Fun K "is_policy" "is_policy" s_is_policy f_is_policy d_is_policy
  b_is_policy : Binds K d_is_policy ["value"] []
  m_is_policy : mg "is_policy" = some (.ref f_is_policy)
  f_check_policy : Addr
  d_check_policy : FuncData
  F_check_policy : Fun K "check_policy" "check_policy" s_check_policy f_check_policy d_check_policy
  b_check_policy : Binds K d_check_policy ["policy"] []
  m_check_policy : mg "check_policy" = some (.ref f_check_policy)
  f_forgets : Addr
  d_forgets : FuncData
  F_forgets : Fun K "forgets" "forgets" s_forgets f_forgets d_forgets
  b_forgets : Binds K d_forgets ["policy"] []
  m_forgets : mg "forgets" = some (.ref f_forgets)
  f__law_later : Addr
  d__law_later : FuncData
  F__law_later : Fun K "_law_later" "_law_later" s__law_later f__law_later d__law_later
  b__law_later : Binds K d__law_later ["_law_table_here", "_law_spot"] []
  m__law_later : mg "_law_later" = some (.ref f__law_later)
  f__law_begun : Addr
  d__law_begun : FuncData
  F__law_begun : Fun K "_law_begun" "_law_begun" s__law_begun f__law_begun d__law_begun
  b__law_begun : Binds K d__law_begun ["_law_table_here"] []
  m__law_begun : mg "_law_begun" = some (.ref f__law_begun)
  f__law_starts : Addr
  d__law_starts : FuncData
  F__law_starts : Fun K "_law_starts" "_law_starts" s__law_starts f__law_starts d__law_starts
  b__law_starts : Binds K d__law_starts ["_law_table_here"] []
  m__law_starts : mg "_law_starts" = some (.ref f__law_starts)
  f__law_forgotten : Addr
  d__law_forgotten : FuncData
  F__law_forgotten : Fun K "_law_forgotten" "_law_forgotten" s__law_forgotten f__law_forgotten d__law_forgotten
  b__law_forgotten : Binds K d__law_forgotten ["_law_table_here"] []
  m__law_forgotten : mg "_law_forgotten" = some (.ref f__law_forgotten)
  f__law_asked : Addr
  d__law_asked : FuncData
  F__law_asked : Fun K "_law_asked" "_law_asked" s__law_asked f__law_asked d__law_asked
  b__law_asked : Binds K d__law_asked ["_law_table_here"] []
  m__law_asked : mg "_law_asked" = some (.ref f__law_asked)
  f__law_draw : Addr
  d__law_draw : FuncData
  F__law_draw : Fun K "_law_draw" "_law_draw" s__law_draw f__law_draw d__law_draw
  b__law_draw : Binds K d__law_draw ["_law_pool_here", "_law_most"] []
  m__law_draw : mg "_law_draw" = some (.ref f__law_draw)
  f__law_policy : Addr
  d__law_policy : FuncData
  F__law_policy : Fun K "_law_policy" "_law_policy" s__law_policy f__law_policy d__law_policy
  b__law_policy : Binds K d__law_policy ["_law_pool_here", "_law_lines", "_law_states"] []
  m__law_policy : mg "_law_policy" = some (.ref f__law_policy)
  f__law_queue : Addr
  d__law_queue : FuncData
  F__law_queue : Fun K "_law_queue" "_law_queue" s__law_queue f__law_queue d__law_queue
  b__law_queue : Binds K d__law_queue ["_law_lines"] []
  m__law_queue : mg "_law_queue" = some (.ref f__law_queue)
  f__law_recent : Addr
  d__law_recent : FuncData
  F__law_recent : Fun K "_law_recent" "_law_recent" s__law_recent f__law_recent d__law_recent
  b__law_recent : Binds K d__law_recent ["_law_lines"] []
  m__law_recent : mg "_law_recent" = some (.ref f__law_recent)
  f__law_table : Addr
  d__law_table : FuncData
  F__law_table : Fun K "_law_table" "_law_table" s__law_table f__law_table d__law_table
  b__law_table : Binds K d__law_table ["_law_pool_here"] []
  m__law_table : mg "_law_table" = some (.ref f__law_table)
  f__law_right : Addr
  d__law_right : FuncData
  F__law_right : Fun K "_law_right" "_law_right" s__law_right f__law_right d__law_right
  b__law_right : Binds K d__law_right ["_law_pool_here"] []
  m__law_right : mg "_law_right" = some (.ref f__law_right)
  f__law_pool : Addr
  d__law_pool : FuncData
  F__law_pool : Fun K "_law_pool" "_law_pool" s__law_pool f__law_pool d__law_pool
  b__law_pool : Binds K d__law_pool ["_law_figure"] []
  m__law_pool : mg "_law_pool" = some (.ref f__law_pool)
  f__law_cell : Addr
  d__law_cell : FuncData
  F__law_cell : Fun K "_law_cell" "_law_cell" s__law_cell f__law_cell d__law_cell
  b__law_cell : Binds K d__law_cell ["_law_script", "_law_k"] []
  m__law_cell : mg "_law_cell" = some (.ref f__law_cell)
  f__law_seldom : Addr
  d__law_seldom : FuncData
  F__law_seldom : Fun K "_law_seldom" "_law_seldom" s__law_seldom f__law_seldom d__law_seldom
  b__law_seldom : Binds K d__law_seldom [] []
  m__law_seldom : mg "_law_seldom" = some (.ref f__law_seldom)
  f__law_blocks : Addr
  d__law_blocks : FuncData
  F__law_blocks : Fun K "_law_blocks" "_law_blocks" s__law_blocks f__law_blocks d__law_blocks
  b__law_blocks : Binds K d__law_blocks ["_law_many"] []
  m__law_blocks : mg "_law_blocks" = some (.ref f__law_blocks)
  f__law_lasting : Addr
  d__law_lasting : FuncData
  F__law_lasting : Fun K "_law_lasting" "_law_lasting" s__law_lasting f__law_lasting d__law_lasting
  b__law_lasting : Binds K d__law_lasting [] []
  m__law_lasting : mg "_law_lasting" = some (.ref f__law_lasting)
  f_law : Addr
  d_law : FuncData
  F_law : Fun K "law" "law" s_law f_law d_law
  b_law : Binds K d_law ["_law_script"] []
  m_law : mg "law" = some (.ref f_law)
  cl_Memory : Cls K C_Memory
  mC_Memory : mg "Memory" = some (.ref C_Memory)
  na_Memory_edges : NoAttr K C_Memory "edges"
  na_Memory_ranks : NoAttr K C_Memory "ranks"
  na_Memory_stages : NoAttr K C_Memory "stages"
  na_Memory_starts : NoAttr K C_Memory "starts"
  n_abs : mg "abs" = none
  n_all : mg "all" = none
  n_bool : mg "bool" = none
  n_divmod : mg "divmod" = none
  n_int : mg "int" = none
  n_isinstance : mg "isinstance" = none
  n_len : mg "len" = none
  n_list : mg "list" = none
  n_max : mg "max" = none
  n_min : mg "min" = none
  n_range : mg "range" = none
  n_repr : mg "repr" = none
  n_tuple : mg "tuple" = none
  g_MOST_LINES : GlobIs K mg "MOST_LINES" c_MOST_LINES
  g_MOST_STATES : GlobIs K mg "MOST_STATES" c_MOST_STATES
  kw_forgets_0 : KwB K d_forgets ["policy"] ["policy"] [0]
def Top.ct {K : Frg} {mg : Str → Option Value} (T : Top K mg) (P : Program) (w : World) : Ct := ⟨fun n => ([some T.C_Memory] : List (Option Addr)).getD n none, P, w⟩
theorem Top.e_MOST_LINES {X : Cx} {ct : Ct} {pos : Pos} (T : Top X.K X.mg) (hg : Gl X "MOST_LINES") : SE X ct (.Name "MOST_LINES" pos) (fK c_MOST_LINES) := se_globIs hg T.g_MOST_LINES
theorem Top.e_MOST_STATES {X : Cx} {ct : Ct} {pos : Pos} (T : Top X.K X.mg) (hg : Gl X "MOST_STATES") : SE X ct (.Name "MOST_STATES" pos) (fK c_MOST_STATES) := se_globIs hg T.g_MOST_STATES
section
variable {P : Program} {w : World} {K : Frg} {mg : Str → Option Value} {base : Heap}
theorem ok_Memory_is_endless (T : Top K mg) : FnG P w K mg base 1 T.f_Memory_is_endless T.d_Memory_is_endless ["self"] (spF K (T.ct P w) m_Memory_is_endless 1) := fn_sim T.F_Memory_is_endless sc_Memory_is_endless fun cdv A outer s H E hr hgd =>
  (ss_one (by exact ss_ret (by exact se_cmp so_lt (by exact se_callB sc_lenE (by rfl) (by exact T.n_len) (by decide +kernel) (by exact (sa_cons (by exact se_fld (C := T.C_Memory) (by exact sv_l 0) rfl (by exact T.cl_Memory) (by exact T.na_Memory_ranks)) sa_nil))) (by exact se_callB sc_lenE (by rfl) (by exact T.n_len) (by decide +kernel) (by exact (sa_cons (by exact se_fld (C := T.C_Memory) (by exact sv_l 0) rfl (by exact T.cl_Memory) (by exact T.na_Memory_edges)) sa_nil))) (nomark _))))
theorem ok_Memory_longest (T : Top K mg) : FnG P w K mg base 1 T.f_Memory_longest T.d_Memory_longest ["self"] (spF K (T.ct P w) m_Memory_longest 1) := fn_sim T.F_Memory_longest sc_Memory_longest fun cdv A outer s H E hr hgd =>
  (ss_cons (by exact ss_set (i := 1) sc_Memory_longest.nd rfl (Or.inl rfl) (by exact se_non)) (by exact (ss_cons (by exact ss_lockP (p := (locF 0 "starts")) (ss_for PassesOwn.never rfl (by exact (si_keysN (by exact se_fld (C := T.C_Memory) (by exact sv_l 0) rfl (by exact T.cl_Memory) (by exact T.na_Memory_starts)))) (by exact (sg_name (ws := [2]) (i := 2) sc_Memory_longest.nd rfl (Or.inl rfl) (by decide))) (by exact (ss_one (by exact ss_if (by exact SW.st (sw_or (by exact st_cmp so_isE (by exact sv_l 1) (by exact se_non) (nomark _)) (sw_or1 (by exact st_cmp so_gt (by exact se_ixE (hu65 hr) (by exact se_fld (C := T.C_Memory) (by exact sv_l 0) rfl (by exact T.cl_Memory) (by exact T.na_Memory_ranks)) (by exact sv_l 2)) (by exact se_ixE (hu65 hr) (by exact se_fld (C := T.C_Memory) (by exact sv_l 0) rfl (by exact T.cl_Memory) (by exact T.na_Memory_ranks)) (by exact sv_l 1)) (nomark _))))) (by exact (ss_one (by exact ss_set (i := 1) sc_Memory_longest.nd rfl (Or.inl rfl) (by exact sv_l 2)))) (by exact ss_nil)))))) (by exact (ss_one (by exact ss_ret (by exact sv_l 1)))))))
theorem ok_Memory_rank_all (T : Top K mg) : FnG P w K mg base 1 T.f_Memory_rank_all T.d_Memory_rank_all ["self"] (spF K (T.ct P w) m_Memory_rank_all 1) := fn_sim T.F_Memory_rank_all sc_Memory_rank_all fun cdv A outer s H E hr hgd =>
  (ss_cons (by exact ss_lockP (p := (locF 0 "edges")) (ss_setDcN (i := 1) (own := [("here", 3)]) (hu65 hr) rfl sc_Memory_rank_all.nd rfl rfl (sw_trueD rfl rfl rfl (by decide +kernel)) (by exact (si_keysN (by exact se_fld (C := T.C_Memory) (by exact sv_c 0) rfl (by exact T.cl_Memory) (by exact T.na_Memory_edges)))) (blkOk_by (N := ["self", "ahead", "left", "here", "move", "goal", "order", "at", "before"]) (sc := defScope s_Memory_rank_all) (own := [("here", 3)]) (by decide +kernel)) (fun _ _ _ _ _ => (by exact (sg_name (ws := [3]) (i := 3) sc_Memory_rank_all.nd rfl (Or.inl rfl) (by decide)))) (fun _ _ _ _ _ => sts_nil) (fun _ _ _ _ _ => (by exact sv_l 3)) (fun _ _ _ _ _ => (by exact se_lst (by exact sa_nil))))) (by exact (ss_cons (by exact ss_set (i := 2) sc_Memory_rank_all.nd rfl (Or.inr rfl) (by exact se_lockP (p := (locF 0 "edges")) (se_compD (own := [("here", 3)]) (hu65 hr) rfl sc_Memory_rank_all.nd (by exact (si_keysN (by exact se_fld (C := T.C_Memory) (by exact sv_c 0) rfl (by exact T.cl_Memory) (by exact T.na_Memory_edges)))) (blkOk_by (N := ["self", "ahead", "left", "here", "move", "goal", "order", "at", "before"]) (sc := defScope s_Memory_rank_all) (own := [("here", 3)]) (by decide +kernel)) (fun _ _ _ _ _ => (by exact (sg_name (ws := [3]) (i := 3) sc_Memory_rank_all.nd rfl (Or.inl rfl) (by decide)))) (fun _ _ _ _ _ => sts_nil) (fun _ _ _ _ _ => (by exact sv_l 3)) (fun _ _ _ _ _ => (by exact se_callB sc_lenE (by rfl) (by exact T.n_len) (by decide +kernel) (by exact (sa_cons (by exact se_ixF (hu65 hr) (by exact se_fld (C := T.C_Memory) (by exact sv_f 0) rfl (by exact T.cl_Memory) (by exact T.na_Memory_edges)) (by exact sv_l 3)) sa_nil))))))) (by exact (ss_cons (by exact ss_lockP (p := (locF 0 "edges")) (ss_for PassesOwn.never rfl (by exact (si_keysN (by exact se_fld (C := T.C_Memory) (by exact sv_c 0) rfl (by exact T.cl_Memory) (by exact T.na_Memory_edges)))) (by exact (sg_name (ws := [3]) (i := 3) sc_Memory_rank_all.nd rfl (Or.inl rfl) (by decide))) (by exact (ss_one (by exact ss_for PassesOwn.never rfl (by exact (si_seq (by exact se_ixF (hu65 hr) (by exact se_fld (C := T.C_Memory) (by exact sv_c 0) rfl (by exact T.cl_Memory) (by exact T.na_Memory_edges)) (by exact sv_l 3)))) (by exact (sg_or2 (sg_tup rfl (sgs_cons (by exact (sg_name (ws := [4, 5]) (i := 4) sc_Memory_rank_all.nd rfl (Or.inl rfl) (by decide))) (sgs_cons (by exact (sg_name (ws := [4, 5]) (i := 5) sc_Memory_rank_all.nd rfl (Or.inl rfl) (by decide))) sgs_nil))) (sg_unl rfl (sgs_cons (by exact (sg_name (ws := [4, 5]) (i := 4) sc_Memory_rank_all.nd rfl (Or.inl rfl) (by decide))) (sgs_cons (by exact (sg_name (ws := [4, 5]) (i := 5) sc_Memory_rank_all.nd rfl (Or.inl rfl) (by decide))) sgs_nil))))) (by exact (ss_one (by exact ss_expr (by exact (se_bm PySem.F.plainAttrs_list PySem.F.slot_list_append PySem.F.type_list_append sm_append (by exact se_ixE (hu65 hr) (by exact sv_l 1) (by exact sv_l 5)) (by exact (sa_cons (by exact sv_l 3) sa_nil)))))))))))) (by exact (ss_cons (by exact ss_lockP (p := (locF 0 "edges")) (ss_setLc (i := 6) (own := [("here", 3)]) rfl sc_Memory_rank_all.nd rfl rfl (sw_true rfl rfl rfl (by decide +kernel)) (by exact (si_keysN (by exact se_fld (C := T.C_Memory) (by exact sv_c 0) rfl (by exact T.cl_Memory) (by exact T.na_Memory_edges)))) (blkOk_by (N := ["self", "ahead", "left", "here", "move", "goal", "order", "at", "before"]) (sc := defScope s_Memory_rank_all) (own := [("here", 3)]) (by decide +kernel)) (fun _ _ _ _ _ => (by exact (sg_name (ws := [3]) (i := 3) sc_Memory_rank_all.nd rfl (Or.inl rfl) (by decide)))) (fun _ _ _ _ _ => (sts_one (by exact st_cmp (by exact so_eq hr.units) (by exact se_ixE (hu65 hr) (by exact sv_f 2) (by exact sv_l 3)) (by exact se_int) (nomark _)))) (fun _ _ _ _ _ => (by exact sv_l 3)))) (by exact (ss_cons (by exact ss_set (i := 7) sc_Memory_rank_all.nd rfl (Or.inl rfl) (by exact se_int)) (by exact (ss_one (by exact ss_while 1000000 PassesOwn.never (by exact st_cmp so_lt (by exact sv_l 7) (by exact se_callB sc_lenE (by rfl) (by exact T.n_len) (by decide +kernel) (by exact (sa_cons (by exact sv_l 6) sa_nil))) (nomark _)) (by exact (ss_cons (by exact ss_set (i := 3) sc_Memory_rank_all.nd rfl (Or.inl rfl) (by exact se_ixE (hu65 hr) (by exact sv_l 6) (by exact sv_l 7))) (by exact (ss_cons (by exact ss_asg (by exact se_maxDf (k := 0) rfl (by rfl) (by exact T.n_max) (by exact se_comp (own := [("move", 4), ("goal", 5)]) rfl sc_Memory_rank_all.nd (by exact (si_seq (by exact se_ixE (hu65 hr) (by exact se_fld (C := T.C_Memory) (by exact sv_c 0) rfl (by exact T.cl_Memory) (by exact T.na_Memory_edges)) (by exact sv_l 3)))) (blkOk_by (N := ["self", "ahead", "left", "here", "move", "goal", "order", "at", "before"]) (sc := defScope s_Memory_rank_all) (own := [("move", 4), ("goal", 5)]) (by decide +kernel)) (fun _ _ _ _ _ => (by exact (sg_or2 (sg_tup rfl (sgs_cons (by exact (sg_name (ws := [4, 5]) (i := 4) sc_Memory_rank_all.nd rfl (Or.inl rfl) (by decide))) (sgs_cons (by exact (sg_name (ws := [4, 5]) (i := 5) sc_Memory_rank_all.nd rfl (Or.inl rfl) (by decide))) sgs_nil))) (sg_unl rfl (sgs_cons (by exact (sg_name (ws := [4, 5]) (i := 4) sc_Memory_rank_all.nd rfl (Or.inl rfl) (by decide))) (sgs_cons (by exact (sg_name (ws := [4, 5]) (i := 5) sc_Memory_rank_all.nd rfl (Or.inl rfl) (by decide))) sgs_nil)))))) (fun _ _ _ _ _ => sts_nil) (fun _ _ _ _ _ => (by exact se_op so_add (by exact se_int) (by exact se_ixE (hu65 hr) (by exact se_fld (C := T.C_Memory) (by exact sv_f 0) rfl (by exact T.cl_Memory) (by exact T.na_Memory_ranks)) (by exact sv_l 5))))) se_int) (by exact (sg_subE (ws := []) (hu65 hr) (by exact se_fld (C := T.C_Memory) (by exact sv_c 0) rfl (by exact T.cl_Memory) (by exact T.na_Memory_ranks)) (by exact sv_l 3)))) (by exact (ss_cons (by exact ss_for PassesOwn.never rfl (by exact (si_seq (by exact se_ixE (hu65 hr) (by exact sv_l 1) (by exact sv_l 3)))) (by exact (sg_name (ws := [8]) (i := 8) sc_Memory_rank_all.nd rfl (Or.inl rfl) (by decide))) (by exact (ss_cons (by exact ss_augN (hu65 hr) (by exact sv_c 2) (by exact sv_l 8) (by exact se_int) ip_sub) (by exact (ss_one (by exact ss_if (by exact st_cmp (by exact so_eq hr.units) (by exact se_ixE (hu65 hr) (by exact sv_c 2) (by exact sv_l 8)) (by exact se_int) (nomark _)) (by exact (ss_one (by exact ss_expr (by exact (se_bm PySem.F.plainAttrs_list PySem.F.slot_list_append PySem.F.type_list_append sm_append (by exact sv_l 6) (by exact (sa_cons (by exact sv_l 8) sa_nil))))))) (by exact ss_nil))))))) (by exact (ss_one (by exact ss_aug (i := 7) sc_Memory_rank_all.nd rfl (Or.inl rfl) (by exact se_int) ip_add)))))))))))))))))))))
theorem ok_put_at (T : Top K mg) : FnG P w K mg base 1 T.f_put_at T.d_put_at ["row", "index", "value"] (spF K (T.ct P w) m_put_at 3) := fn_sim T.F_put_at sc_put_at fun cdv A outer s H E hr hgd =>
  (ss_one (by exact ss_ret (by exact se_tup (by exact (sa_starE (by exact se_slice (by exact sv_l 0) so_none (by exact so_some (by exact sv_l 1))) (sa_cons (by exact sv_l 2) (sa_starE (by exact se_slice (by exact sv_l 0) (by exact so_some (by exact se_op so_add (by exact sv_l 1) (by exact se_int))) so_none) sa_nil)))))))
theorem ok_fresh_moves (T : Top K mg) : FnG P w K mg base 2 T.f_fresh_moves T.d_fresh_moves ["policy", "here"] (spF K (T.ct P w) m_fresh_moves 2) := fn_sim T.F_fresh_moves sc_fresh_moves fun cdv A outer s H E hr hgd =>
  (ss_cons (by exact ss_asg (by exact sv_l 1) (by exact (sg_or2 (sg_tup rfl (sgs_cons (by exact (sg_name (ws := [2, 3]) (i := 2) sc_fresh_moves.nd rfl (Or.inl rfl) (by decide))) (sgs_cons (by exact (sg_name (ws := [2, 3]) (i := 3) sc_fresh_moves.nd rfl (Or.inr rfl) (by decide))) sgs_nil))) (sg_unl rfl (sgs_cons (by exact (sg_name (ws := [2, 3]) (i := 2) sc_fresh_moves.nd rfl (Or.inl rfl) (by decide))) (sgs_cons (by exact (sg_name (ws := [2, 3]) (i := 3) sc_fresh_moves.nd rfl (Or.inr rfl) (by decide))) sgs_nil)))))) (by exact (ss_cons (by exact ss_asg (by exact se_ixE (hu65 hr) (by exact se_ixE (hu65 hr) (by exact sv_l 0) (by exact se_int)) (by exact sv_l 2)) (by exact (sg_or2 (sg_tup rfl (sgs_cons (by exact (sg_name (ws := [4, 5, 6]) (i := 4) sc_fresh_moves.nd rfl (Or.inl rfl) (by decide))) (sgs_cons (by exact (sg_name (ws := [4, 5, 6]) (i := 5) sc_fresh_moves.nd rfl (Or.inl rfl) (by decide))) (sgs_cons (by exact (sg_name (ws := [4, 5, 6]) (i := 6) sc_fresh_moves.nd rfl (Or.inr rfl) (by decide))) sgs_nil)))) (sg_unl rfl (sgs_cons (by exact (sg_name (ws := [4, 5, 6]) (i := 4) sc_fresh_moves.nd rfl (Or.inl rfl) (by decide))) (sgs_cons (by exact (sg_name (ws := [4, 5, 6]) (i := 5) sc_fresh_moves.nd rfl (Or.inl rfl) (by decide))) (sgs_cons (by exact (sg_name (ws := [4, 5, 6]) (i := 6) sc_fresh_moves.nd rfl (Or.inr rfl) (by decide))) sgs_nil))))))) (by exact (ss_cons (by exact ss_setLc (i := 7) (own := [("line", 8)]) rfl sc_fresh_moves.nd rfl rfl (sw_true rfl rfl rfl (by decide +kernel)) (by exact (si_range1 rfl (by exact T.n_range) (by exact se_ixE (hu65 hr) (by exact sv_l 0) (by exact se_int)))) (blkOk_by (N := ["policy", "here", "state", "marks", "victim", "after", "hits", "found", "line"]) (sc := defScope s_fresh_moves) (own := [("line", 8)]) (by decide +kernel)) (fun _ _ _ _ _ => (by exact (sg_name (ws := [8]) (i := 8) sc_fresh_moves.nd rfl (Or.inl rfl) (by decide)))) (fun _ _ _ _ _ => (sts_one (by exact st_cmp so_isG (by exact se_ixE (hu65 hr) (by exact sv_f 3) (by exact sv_l 8)) (by exact se_bl) (nomark _)))) (fun _ _ _ _ _ => (by exact se_tup (by exact (sa_cons (by exact sv_l 8) (sa_cons (by exact se_tup (by exact (sa_cons (by exact se_ixE (hu65 hr) (by exact sv_f 6) (by exact sv_l 8)) (sa_cons (by exact se_call (ps := ["row", "index", "value"]) (by exact ok_put_at T) (by exact hr.mono (by decide)) (by exact hgd) (by rfl) (by exact T.m_put_at) (by exact T.F_put_at.kp) (by exact T.b_put_at) (by exact (sa_cons (by exact sv_f 3) (sa_cons (by exact sv_l 8) (sa_cons (by exact se_bl) sa_nil))))) sa_nil)))) sa_nil)))))) (by exact (ss_one (by exact ss_ret (by exact se_op so_add (by exact sv_l 7) (by exact se_lst (by exact (sa_cons (by exact se_tup (by exact (sa_cons (by exact se_ixE (hu65 hr) (by exact sv_l 0) (by exact se_int)) (sa_cons (by exact se_tup (by exact (sa_cons (by exact sv_l 5) (sa_cons (by exact se_call (ps := ["row", "index", "value"]) (by exact ok_put_at T) (by exact hr.mono (by decide)) (by exact hgd) (by rfl) (by exact T.m_put_at) (by exact T.F_put_at.kp) (by exact T.b_put_at) (by exact (sa_cons (by exact sv_c 3) (sa_cons (by exact sv_l 4) (sa_cons (by exact se_bl) sa_nil))))) sa_nil)))) sa_nil)))) sa_nil))))))))))))
theorem ok_has_old (T : Top K mg) : FnG P w K mg base 1 T.f_has_old T.d_has_old ["here"] (spF K (T.ct P w) m_has_old 1) := fn_sim T.F_has_old sc_has_old fun cdv A outer s H E hr hgd =>
  (ss_one (by exact ss_ret (by exact se_cmp (by exact so_inE (hu65 hr)) (by exact se_bl) (by exact se_ixE (hu65 hr) (by exact sv_l 0) (by exact se_int)) (by rfl))))
theorem ok_old_marks (T : Top K mg) : FnG P w K mg base 1 T.f_old_marks T.d_old_marks ["stage"] (spF K (T.ct P w) m_old_marks 1) := fn_sim T.F_old_marks sc_old_marks fun cdv A outer s H E hr hgd =>
  (ss_cons (by exact ss_asg (by exact sv_l 0) (by exact (sg_or2 (sg_tup rfl (sgs_cons (by exact (sg_name (ws := [1, 2]) (i := 1) sc_old_marks.nd rfl (Or.inl rfl) (by decide))) (sgs_cons (by exact (sg_name (ws := [1, 2]) (i := 2) sc_old_marks.nd rfl (Or.inl rfl) (by decide))) sgs_nil))) (sg_unl rfl (sgs_cons (by exact (sg_name (ws := [1, 2]) (i := 1) sc_old_marks.nd rfl (Or.inl rfl) (by decide))) (sgs_cons (by exact (sg_name (ws := [1, 2]) (i := 2) sc_old_marks.nd rfl (Or.inl rfl) (by decide))) sgs_nil)))))) (by exact (ss_one (by exact ss_ret (by exact se_tup (by exact (sa_cons (by exact sv_l 1) (sa_cons (by exact se_callTy sc_tuple (by rfl) (by exact T.n_tuple) (by decide +kernel) (by exact (sa_cons (by exact se_comp (own := [("one", 3)]) rfl sc_old_marks.nd (by exact (si_seq (by exact sv_l 2))) (blkOk_by (N := ["stage", "state", "filled", "one"]) (sc := defScope s_old_marks) (own := [("one", 3)]) (by decide +kernel)) (fun _ _ _ _ _ => (by exact (sg_name (ws := [3]) (i := 3) sc_old_marks.nd rfl (Or.inl rfl) (by decide)))) (fun _ _ _ _ _ => sts_nil) (fun _ _ _ _ _ => (by exact se_if (by exact st_truth (by exact sv_l 3)) (by exact se_bl) (by exact se_non)))) sa_nil))) sa_nil))))))))
theorem ok_any_moves (T : Top K mg) : FnG P w K mg base 2 T.f_any_moves T.d_any_moves ["policy", "stage"] (spF K (T.ct P w) m_any_moves 2) := fn_sim T.F_any_moves sc_any_moves fun cdv A outer s H E hr hgd =>
  (ss_cons (by exact ss_asg (by exact sv_l 1) (by exact (sg_or2 (sg_tup rfl (sgs_cons (by exact (sg_name (ws := [2, 3]) (i := 2) sc_any_moves.nd rfl (Or.inl rfl) (by decide))) (sgs_cons (by exact (sg_name (ws := [2, 3]) (i := 3) sc_any_moves.nd rfl (Or.inr rfl) (by decide))) sgs_nil))) (sg_unl rfl (sgs_cons (by exact (sg_name (ws := [2, 3]) (i := 2) sc_any_moves.nd rfl (Or.inl rfl) (by decide))) (sgs_cons (by exact (sg_name (ws := [2, 3]) (i := 3) sc_any_moves.nd rfl (Or.inr rfl) (by decide))) sgs_nil)))))) (by exact (ss_cons (by exact ss_asg (by exact se_ixE (hu65 hr) (by exact se_ixE (hu65 hr) (by exact sv_l 0) (by exact se_int)) (by exact sv_l 2)) (by exact (sg_or2 (sg_tup rfl (sgs_cons (by exact (sg_name (ws := [4, 5, 6]) (i := 4) sc_any_moves.nd rfl (Or.inl rfl) (by decide))) (sgs_cons (by exact (sg_name (ws := [4, 5, 6]) (i := 5) sc_any_moves.nd rfl (Or.inl rfl) (by decide))) (sgs_cons (by exact (sg_name (ws := [4, 5, 6]) (i := 6) sc_any_moves.nd rfl (Or.inr rfl) (by decide))) sgs_nil)))) (sg_unl rfl (sgs_cons (by exact (sg_name (ws := [4, 5, 6]) (i := 4) sc_any_moves.nd rfl (Or.inl rfl) (by decide))) (sgs_cons (by exact (sg_name (ws := [4, 5, 6]) (i := 5) sc_any_moves.nd rfl (Or.inl rfl) (by decide))) (sgs_cons (by exact (sg_name (ws := [4, 5, 6]) (i := 6) sc_any_moves.nd rfl (Or.inr rfl) (by decide))) sgs_nil))))))) (by exact (ss_cons (by exact ss_setLc (i := 7) (own := [("line", 8)]) rfl sc_any_moves.nd rfl rfl (sw_true rfl rfl rfl (by decide +kernel)) (by exact (si_range1 rfl (by exact T.n_range) (by exact se_ixE (hu65 hr) (by exact sv_l 0) (by exact se_int)))) (blkOk_by (N := ["policy", "stage", "state", "filled", "victim", "after", "hits", "found", "line"]) (sc := defScope s_any_moves) (own := [("line", 8)]) (by decide +kernel)) (fun _ _ _ _ _ => (by exact (sg_name (ws := [8]) (i := 8) sc_any_moves.nd rfl (Or.inl rfl) (by decide)))) (fun _ _ _ _ _ => (sts_one (by exact st_truth (by exact se_ixE (hu65 hr) (by exact sv_f 3) (by exact sv_l 8))))) (fun _ _ _ _ _ => (by exact se_tup (by exact (sa_cons (by exact sv_l 8) (sa_cons (by exact se_tup (by exact (sa_cons (by exact se_ixE (hu65 hr) (by exact sv_f 6) (by exact sv_l 8)) (sa_cons (by exact sv_f 3) sa_nil)))) sa_nil)))))) (by exact (ss_one (by exact ss_ret (by exact se_op so_add (by exact sv_l 7) (by exact se_lst (by exact (sa_cons (by exact se_tup (by exact (sa_cons (by exact se_ixE (hu65 hr) (by exact sv_l 0) (by exact se_int)) (sa_cons (by exact se_tup (by exact (sa_cons (by exact sv_l 5) (sa_cons (by exact se_call (ps := ["row", "index", "value"]) (by exact ok_put_at T) (by exact hr.mono (by decide)) (by exact hgd) (by rfl) (by exact T.m_put_at) (by exact T.F_put_at.kp) (by exact T.b_put_at) (by exact (sa_cons (by exact sv_c 3) (sa_cons (by exact sv_l 4) (sa_cons (by exact se_bl) sa_nil))))) sa_nil)))) sa_nil)))) sa_nil))))))))))))
theorem ok_filled_stages (T : Top K mg) : FnG P w K mg base 3 T.f_filled_stages T.d_filled_stages ["policy"] (spF K (T.ct P w) m_filled_stages 1) := fn_sim T.F_filled_stages sc_filled_stages fun cdv A outer s H E hr hgd =>
  (ss_cons (by exact ss_set (i := 1) sc_filled_stages.nd rfl (Or.inl rfl) (by exact se_tup (by exact (sa_cons (by exact se_int) (sa_cons (by exact se_op so_mul (by exact se_tup (by exact (sa_cons (by exact se_bl) sa_nil))) (by exact se_ixE (hu65 hr) (by exact sv_l 0) (by exact se_int))) sa_nil))))) (by exact (ss_cons (by exact ss_par (i := 2) (j := 3) rfl sc_filled_stages.nd rfl rfl (by decide) rfl rfl (by exact (sa_cons (by exact se_or2 (by exact se_dict1N (hu65 hr) (by exact sv_l 1) (by exact se_non)) (by exact se_dict1K (by exact sv_l 1) (by exact se_non))) (sa_cons (by exact se_lst (by exact (sa_cons (by exact sv_l 1) sa_nil))) sa_nil))) (by rfl)) (by exact (ss_cons (by exact ss_set (i := 4) sc_filled_stages.nd rfl (Or.inl rfl) (by exact se_int)) (by exact (ss_cons (by exact ss_while 1000000 PassesOwn.never (by exact st_cmp so_lt (by exact sv_l 4) (by exact se_callB sc_lenE (by rfl) (by exact T.n_len) (by decide +kernel) (by exact (sa_cons (by exact sv_l 3) sa_nil))) (nomark _)) (by exact (ss_cons (by exact ss_for PassesOwn.never rfl (by exact (si_seq (by exact se_call (ps := ["policy", "stage"]) (by exact ok_any_moves T) (by exact hr.mono (by decide)) (by exact hgd) (by rfl) (by exact T.m_any_moves) (by exact T.F_any_moves.kp) (by exact T.b_any_moves) (by exact (sa_cons (by exact sv_l 0) (sa_cons (by exact se_ixE (hu65 hr) (by exact sv_l 3) (by exact sv_l 4)) sa_nil)))))) (by exact (sg_or2 (sg_tup rfl (sgs_cons (by exact (sg_name (ws := [5, 6]) (i := 5) sc_filled_stages.nd rfl (Or.inl rfl) (by decide))) (sgs_cons (by exact (sg_name (ws := [5, 6]) (i := 6) sc_filled_stages.nd rfl (Or.inl rfl) (by decide))) sgs_nil))) (sg_unl rfl (sgs_cons (by exact (sg_name (ws := [5, 6]) (i := 5) sc_filled_stages.nd rfl (Or.inl rfl) (by decide))) (sgs_cons (by exact (sg_name (ws := [5, 6]) (i := 6) sc_filled_stages.nd rfl (Or.inl rfl) (by decide))) sgs_nil))))) (by exact (ss_one (by exact ss_if (by exact st_cmp (by exact so_notinE (hu65 hr)) (by exact sv_l 6) (by exact sv_l 2) (by rfl)) (by exact (ss_cons (by exact ss_asg (by exact se_tup (by exact (sa_cons (by exact se_ixE (hu65 hr) (by exact sv_l 3) (by exact sv_l 4)) (sa_cons (by exact sv_l 5) sa_nil)))) (by exact (sg_subE (ws := []) (hu65 hr) (by exact sv_l 2) (by exact sv_l 6)))) (by exact (ss_one (by exact ss_expr (by exact (se_bm PySem.F.plainAttrs_list PySem.F.slot_list_append PySem.F.type_list_append sm_append (by exact sv_l 3) (by exact (sa_cons (by exact sv_l 6) sa_nil))))))))) (by exact ss_nil))))) (by exact (ss_one (by exact ss_aug (i := 4) sc_filled_stages.nd rfl (Or.inl rfl) (by exact se_int) ip_add)))))) (by exact (ss_one (by exact ss_ret (by exact sv_l 2)))))))))))
theorem ok_Memory_init (T : Top K mg) : FnG P w K mg base 4 T.f_Memory_init T.d_Memory_init ["self", "policy"] (spF K (T.ct P w) m_Memory_init 2) := fn_sim T.F_Memory_init sc_Memory_init fun cdv A outer s H E hr hgd =>
  (ss_cons (by exact ss_fld (C := T.C_Memory) (by exact sv_c 0) (by exact se_call (ps := ["policy"]) (by exact ok_filled_stages T) (by exact hr.mono (by decide)) (by exact hgd) (by rfl) (by exact T.m_filled_stages) (by exact T.F_filled_stages.kp) (by exact T.b_filled_stages) (by exact (sa_cons (by exact sv_l 1) sa_nil))) rfl (by exact T.cl_Memory) (by exact T.na_Memory_stages)) (by exact (ss_cons (by exact ss_fld (C := T.C_Memory) (by exact sv_c 0) (by exact se_lockP (p := (locF 0 "stages")) (se_compD (own := [("stage", 5)]) (hu65 hr) rfl sc_Memory_init.nd (by exact (si_keysN (by exact se_fld (C := T.C_Memory) (by exact sv_c 0) rfl (by exact T.cl_Memory) (by exact T.na_Memory_stages)))) (blkOk_by (N := ["self", "policy", "order", "at", "here", "stage", "edge", "move", "goal"]) (sc := defScope s_Memory_init) (own := [("stage", 5)]) (by decide +kernel)) (fun _ _ _ _ _ => (by exact (sg_name (ws := [5]) (i := 5) sc_Memory_init.nd rfl (Or.inl rfl) (by decide)))) (fun _ _ _ _ _ => (sts_one (by exact st_cmp (by exact so_inE (hu65 hr)) (by exact se_bl) (by exact se_ixE (hu65 hr) (by exact sv_l 5) (by exact se_int)) (by rfl)))) (fun _ _ _ _ _ => (by exact se_call (ps := ["stage"]) (by exact ok_old_marks T) (by exact hr.mono (by decide)) (by exact hgd) (by rfl) (by exact T.m_old_marks) (by exact T.F_old_marks.kp) (by exact T.b_old_marks) (by exact (sa_cons (by exact sv_l 5) sa_nil)))) (fun _ _ _ _ _ => (by exact sv_l 5)))) rfl (by exact T.cl_Memory) (by exact T.na_Memory_starts)) (by exact (ss_cons (by exact ss_fld (C := T.C_Memory) (by exact sv_c 0) (by exact se_dnew) rfl (by exact T.cl_Memory) (by exact T.na_Memory_edges)) (by exact (ss_cons (by exact ss_set (i := 2) sc_Memory_init.nd rfl (Or.inl rfl) (by exact se_callTy (sc_listG rfl) (by rfl) (by exact T.n_list) (by decide +kernel) (by exact (sa_cons (by exact se_fld (C := T.C_Memory) (by exact sv_c 0) rfl (by exact T.cl_Memory) (by exact T.na_Memory_starts)) sa_nil)))) (by exact (ss_cons (by exact ss_set (i := 3) sc_Memory_init.nd rfl (Or.inl rfl) (by exact se_int)) (by exact (ss_cons (by exact ss_while 1000000 PassesOwn.never (by exact st_cmp so_lt (by exact sv_l 3) (by exact se_callB sc_lenE (by rfl) (by exact T.n_len) (by decide +kernel) (by exact (sa_cons (by exact sv_l 2) sa_nil))) (nomark _)) (by exact (ss_cons (by exact ss_set (i := 4) sc_Memory_init.nd rfl (Or.inl rfl) (by exact se_ixE (hu65 hr) (by exact sv_l 2) (by exact sv_l 3))) (by exact (ss_cons (by exact ss_if (by exact st_cmp (by exact so_notinE (hu65 hr)) (by exact sv_l 4) (by exact se_fld (C := T.C_Memory) (by exact sv_c 0) rfl (by exact T.cl_Memory) (by exact T.na_Memory_edges)) (by rfl)) (by exact (ss_cons (by exact ss_asg (by exact se_comp (own := [("edge", 6)]) rfl sc_Memory_init.nd (by exact (si_seq (by exact se_call (ps := ["policy", "here"]) (by exact ok_fresh_moves T) (by exact hr.mono (by decide)) (by exact hgd) (by rfl) (by exact T.m_fresh_moves) (by exact T.F_fresh_moves.kp) (by exact T.b_fresh_moves) (by exact (sa_cons (by exact sv_l 1) (sa_cons (by exact sv_l 4) sa_nil)))))) (blkOk_by (N := ["self", "policy", "order", "at", "here", "stage", "edge", "move", "goal"]) (sc := defScope s_Memory_init) (own := [("edge", 6)]) (by decide +kernel)) (fun _ _ _ _ _ => (by exact (sg_name (ws := [6]) (i := 6) sc_Memory_init.nd rfl (Or.inl rfl) (by decide)))) (fun _ _ _ _ _ => (sts_one (by exact st_truth (by exact se_call (ps := ["here"]) (by exact ok_has_old T) (by exact hr.mono (by decide)) (by exact hgd) (by rfl) (by exact T.m_has_old) (by exact T.F_has_old.kp) (by exact T.b_has_old) (by exact (sa_cons (by exact se_ixE (hu65 hr) (by exact sv_l 6) (by exact se_int)) sa_nil)))))) (fun _ _ _ _ _ => (by exact sv_l 6))) (by exact (sg_subE (ws := []) (hu65 hr) (by exact se_fld (C := T.C_Memory) (by exact sv_c 0) rfl (by exact T.cl_Memory) (by exact T.na_Memory_edges)) (by exact sv_l 4)))) (by exact (ss_one (by exact ss_expr (by exact (se_bm PySem.F.plainAttrs_list PySem.F.slot_list_extend PySem.F.type_list_extend sm_extend (by exact sv_l 2) (by exact (sa_cons (by exact se_comp (own := [("move", 7), ("goal", 8)]) rfl sc_Memory_init.nd (by exact (si_seq (by exact se_ixE (hu65 hr) (by exact se_fld (C := T.C_Memory) (by exact sv_c 0) rfl (by exact T.cl_Memory) (by exact T.na_Memory_edges)) (by exact sv_l 4)))) (blkOk_by (N := ["self", "policy", "order", "at", "here", "stage", "edge", "move", "goal"]) (sc := defScope s_Memory_init) (own := [("move", 7), ("goal", 8)]) (by decide +kernel)) (fun _ _ _ _ _ => (by exact (sg_or2 (sg_tup rfl (sgs_cons (by exact (sg_name (ws := [7, 8]) (i := 7) sc_Memory_init.nd rfl (Or.inl rfl) (by decide))) (sgs_cons (by exact (sg_name (ws := [7, 8]) (i := 8) sc_Memory_init.nd rfl (Or.inl rfl) (by decide))) sgs_nil))) (sg_unl rfl (sgs_cons (by exact (sg_name (ws := [7, 8]) (i := 7) sc_Memory_init.nd rfl (Or.inl rfl) (by decide))) (sgs_cons (by exact (sg_name (ws := [7, 8]) (i := 8) sc_Memory_init.nd rfl (Or.inl rfl) (by decide))) sgs_nil)))))) (fun _ _ _ _ _ => (sts_one (by exact st_cmp (by exact so_notinE (hu65 hr)) (by exact sv_l 8) (by exact se_fld (C := T.C_Memory) (by exact sv_f 0) rfl (by exact T.cl_Memory) (by exact T.na_Memory_edges)) (by rfl)))) (fun _ _ _ _ _ => (by exact sv_l 8))) sa_nil))))))))) (by exact ss_nil)) (by exact (ss_one (by exact ss_aug (i := 3) sc_Memory_init.nd rfl (Or.inl rfl) (by exact se_int) ip_add)))))))) (by exact (ss_cons (by exact ss_fld (C := T.C_Memory) (by exact sv_c 0) (by exact se_dnew) rfl (by exact T.cl_Memory) (by exact T.na_Memory_ranks)) (by exact (ss_one (by exact ss_expr (by exact se_meth0 (ps := ["self"]) (C := T.C_Memory) (by exact sv_c 0) rfl (by exact T.cl_Memory) (by exact T.me_Memory_rank_all) (by exact ok_Memory_rank_all T) (by exact hr.mono (by decide)) (by exact hgd) (by exact T.b_Memory_rank_all))))))))))))))))))
theorem ok_is_integer (T : Top K mg) : FnG P w K mg base 1 T.f_is_integer T.d_is_integer ["value"] (spF K (T.ct P w) m_is_integer 1) := fn_sim T.F_is_integer sc_is_integer fun cdv A outer s H E hr hgd =>
  (ss_one (by exact ss_ret (by exact (se_and (by exact se_callB sc_isi (by rfl) (by exact T.n_isinstance) (by decide +kernel) (by exact (sa_cons (by exact sv_l 0) (sa_cons (by exact se_ty (by rfl) (by exact T.n_int) (by decide +kernel)) sa_nil)))) (se_one (by exact se_not (by exact se_callB sc_isi (by rfl) (by exact T.n_isinstance) (by decide +kernel) (by exact (sa_cons (by exact sv_l 0) (sa_cons (by exact se_ty (by rfl) (by exact T.n_bool) (by decide +kernel)) sa_nil))))))))))
theorem ok_is_between (T : Top K mg) : FnG P w K mg base 2 T.f_is_between T.d_is_between ["value", "least", "greatest"] (spF K (T.ct P w) m_is_between 3) := fn_sim T.F_is_between sc_is_between fun cdv A outer s H E hr hgd =>
  (ss_one (by exact ss_ret (by exact (se_and (by exact se_call (ps := ["value"]) (by exact ok_is_integer T) (by exact hr.mono (by decide)) (by exact hgd) (by rfl) (by exact T.m_is_integer) (by exact T.F_is_integer.kp) (by exact T.b_is_integer) (by exact (sa_cons (by exact sv_l 0) sa_nil))) (se_one (by exact se_chain so_le so_le (by exact sv_l 1) (by exact sv_l 0) (by exact sv_l 2)))))))
theorem ok_is_row (T : Top K mg) : FnG P w K mg base 3 T.f_is_row T.d_is_row ["value", "lines", "states"] (spF K (T.ct P w) m_is_row 3) := fn_sim T.F_is_row sc_is_row fun cdv A outer s H E hr hgd =>
  (ss_cons (by exact ss_if (by exact SW.st (sw_or (by exact st_not (by exact st_truth (by exact se_callB sc_isi (by rfl) (by exact T.n_isinstance) (by decide +kernel) (by exact (sa_cons (by exact sv_l 0) (sa_cons (by exact se_ty (by rfl) (by exact T.n_tuple) (by decide +kernel)) sa_nil)))))) (sw_or (by exact st_cmp (by exact so_ne hr.units) (by exact se_callB sc_lenE (by rfl) (by exact T.n_len) (by decide +kernel) (by exact (sa_cons (by exact sv_l 0) sa_nil))) (by exact se_int) (nomark _)) (sw_or1 (by exact st_not (by exact st_truth (by exact se_call (ps := ["value", "least", "greatest"]) (by exact ok_is_between T) (by exact hr.mono (by decide)) (by exact hgd) (by rfl) (by exact T.m_is_between) (by exact T.F_is_between.kp) (by exact T.b_is_between) (by exact (sa_cons (by exact se_ixE (hu65 hr) (by exact sv_l 0) (by exact se_int)) (sa_cons (by exact se_int) (sa_cons (by exact se_op so_sub (by exact sv_l 1) (by exact se_int)) sa_nil))))))))))) (by exact (ss_one (by exact ss_ret (by exact se_bl)))) (by exact ss_nil)) (by exact (ss_cons (by exact ss_if (by exact SW.st (sw_or (by exact st_not (by exact st_truth (by exact se_call (ps := ["value", "least", "greatest"]) (by exact ok_is_between T) (by exact hr.mono (by decide)) (by exact hgd) (by rfl) (by exact T.m_is_between) (by exact T.F_is_between.kp) (by exact T.b_is_between) (by exact (sa_cons (by exact se_ixE (hu65 hr) (by exact sv_l 0) (by exact se_int)) (sa_cons (by exact se_int) (sa_cons (by exact se_op so_sub (by exact sv_c 2) (by exact se_int)) sa_nil))))))) (sw_or (by exact st_not (by exact st_truth (by exact se_callB sc_isi (by rfl) (by exact T.n_isinstance) (by decide +kernel) (by exact (sa_cons (by exact se_ixE (hu65 hr) (by exact sv_l 0) (by exact se_int)) (sa_cons (by exact se_ty (by rfl) (by exact T.n_tuple) (by decide +kernel)) sa_nil)))))) (sw_or1 (by exact st_cmp (by exact so_ne hr.units) (by exact se_callB sc_lenE (by rfl) (by exact T.n_len) (by decide +kernel) (by exact (sa_cons (by exact se_ixE (hu65 hr) (by exact sv_l 0) (by exact se_int)) sa_nil))) (by exact sv_l 1) (nomark _)))))) (by exact (ss_one (by exact ss_ret (by exact se_bl)))) (by exact ss_nil)) (by exact (ss_one (by exact ss_ret (by exact se_callB (sc_all rfl) (by rfl) (by exact T.n_all) (by decide +kernel) (by exact (sa_cons (by exact se_comp (own := [("state", 3)]) rfl sc_is_row.nd (by exact (si_seq (by exact se_ixE (hu65 hr) (by exact sv_l 0) (by exact se_int)))) (blkOk_by (N := ["value", "lines", "states", "state"]) (sc := defScope s_is_row) (own := [("state", 3)]) (by decide +kernel)) (fun _ _ _ _ _ => (by exact (sg_name (ws := [3]) (i := 3) sc_is_row.nd rfl (Or.inl rfl) (by decide)))) (fun _ _ _ _ _ => sts_nil) (fun _ _ _ _ _ => (by exact se_call (ps := ["value", "least", "greatest"]) (by exact ok_is_between T) (by exact hr.mono (by decide)) (by exact hgd) (by rfl) (by exact T.m_is_between) (by exact T.F_is_between.kp) (by exact T.b_is_between) (by exact (sa_cons (by exact sv_l 3) (sa_cons (by exact se_int) (sa_cons (by exact se_op so_sub (by exact sv_f 2) (by exact se_int)) sa_nil))))))) sa_nil)))))))))
theorem ok_is_policy (T : Top K mg) : FnG P w K mg base 4 T.f_is_policy T.d_is_policy ["value"] (spF K (T.ct P w) m_is_policy 1) := fn_sim T.F_is_policy sc_is_policy fun cdv A outer s H E hr hgd =>
  (ss_cons (by exact ss_if (by exact SW.st (sw_or (by exact st_not (by exact st_truth (by exact se_callB sc_isi (by rfl) (by exact T.n_isinstance) (by decide +kernel) (by exact (sa_cons (by exact sv_l 0) (sa_cons (by exact se_ty (by rfl) (by exact T.n_tuple) (by decide +kernel)) sa_nil)))))) (sw_or (by exact st_cmp (by exact so_ne hr.units) (by exact se_callB sc_lenE (by rfl) (by exact T.n_len) (by decide +kernel) (by exact (sa_cons (by exact sv_l 0) sa_nil))) (by exact se_int) (nomark _)) (sw_or1 (by exact st_not (by exact st_truth (by exact se_call (ps := ["value", "least", "greatest"]) (by exact ok_is_between T) (by exact hr.mono (by decide)) (by exact hgd) (by rfl) (by exact T.m_is_between) (by exact T.F_is_between.kp) (by exact T.b_is_between) (by exact (sa_cons (by exact se_ixE (hu65 hr) (by exact sv_l 0) (by exact se_int)) (sa_cons (by exact se_int) (sa_cons (by exact T.e_MOST_LINES rfl) sa_nil))))))))))) (by exact (ss_one (by exact ss_ret (by exact se_bl)))) (by exact ss_nil)) (by exact (ss_cons (by exact ss_asg (by exact sv_l 0) (by exact (sg_or2 (sg_tup rfl (sgs_cons (by exact (sg_name (ws := [1, 2]) (i := 1) sc_is_policy.nd rfl (Or.inr rfl) (by decide))) (sgs_cons (by exact (sg_name (ws := [1, 2]) (i := 2) sc_is_policy.nd rfl (Or.inr rfl) (by decide))) sgs_nil))) (sg_unl rfl (sgs_cons (by exact (sg_name (ws := [1, 2]) (i := 1) sc_is_policy.nd rfl (Or.inr rfl) (by decide))) (sgs_cons (by exact (sg_name (ws := [1, 2]) (i := 2) sc_is_policy.nd rfl (Or.inr rfl) (by decide))) sgs_nil)))))) (by exact (ss_cons (by exact ss_if (by exact SW.st (sw_or (by exact st_not (by exact st_truth (by exact se_callB sc_isi (by rfl) (by exact T.n_isinstance) (by decide +kernel) (by exact (sa_cons (by exact sv_c 2) (sa_cons (by exact se_ty (by rfl) (by exact T.n_tuple) (by decide +kernel)) sa_nil)))))) (sw_or1 (by exact st_not (by exact st_chain so_le so_le (by exact se_int) (by exact se_callB sc_lenE (by rfl) (by exact T.n_len) (by decide +kernel) (by exact (sa_cons (by exact sv_c 2) sa_nil))) (by exact T.e_MOST_STATES rfl)))))) (by exact (ss_one (by exact ss_ret (by exact se_bl)))) (by exact ss_nil)) (by exact (ss_one (by exact ss_ret (by exact se_callB (sc_all rfl) (by rfl) (by exact T.n_all) (by decide +kernel) (by exact (sa_cons (by exact se_comp (own := [("row", 3)]) rfl sc_is_policy.nd (by exact (si_seq (by exact sv_c 2))) (blkOk_by (N := ["value", "lines", "rows", "row"]) (sc := defScope s_is_policy) (own := [("row", 3)]) (by decide +kernel)) (fun _ _ _ _ _ => (by exact (sg_name (ws := [3]) (i := 3) sc_is_policy.nd rfl (Or.inl rfl) (by decide)))) (fun _ _ _ _ _ => sts_nil) (fun _ _ _ _ _ => (by exact se_call (ps := ["value", "lines", "states"]) (by exact ok_is_row T) (by exact hr.mono (by decide)) (by exact hgd) (by rfl) (by exact T.m_is_row) (by exact T.F_is_row.kp) (by exact T.b_is_row) (by exact (sa_cons (by exact sv_l 3) (sa_cons (by exact sv_f 1) (sa_cons (by exact se_callB sc_lenE (by rfl) (by exact T.n_len) (by decide +kernel) (by exact (sa_cons (by exact sv_f 2) sa_nil))) sa_nil))))))) sa_nil)))))))))))
theorem ok_check_policy (T : Top K mg) : FnG P w K mg base 5 T.f_check_policy T.d_check_policy ["policy"] (spF K (T.ct P w) m_check_policy 1) := fn_sim T.F_check_policy sc_check_policy fun cdv A outer s H E hr hgd =>
  (ss_one (by exact ss_if (by exact st_not (by exact st_truth (by exact se_call (ps := ["value"]) (by exact ok_is_policy T) (by exact hr.mono (by decide)) (by exact hgd) (by rfl) (by exact T.m_is_policy) (by exact T.F_is_policy.kp) (by exact T.b_is_policy) (by exact (sa_cons (by exact sv_l 0) sa_nil))))) (by exact (ss_one (by exact ss_never))) (by exact ss_nil)))
theorem ok_forgets (T : Top K mg) : FnG P w K mg base 6 T.f_forgets T.d_forgets ["policy"] (spF K (T.ct P w) m_forgets 1) := fn_sim T.F_forgets sc_forgets fun cdv A outer s H E hr hgd =>
  (ss_cons (by exact ss_expr (by exact se_call (ps := ["policy"]) (by exact ok_check_policy T) (by exact hr.mono (by decide)) (by exact hgd) (by rfl) (by exact T.m_check_policy) (by exact T.F_check_policy.kp) (by exact T.b_check_policy) (by exact (sa_cons (by exact sv_l 0) sa_nil)))) (by exact (ss_cons (by exact ss_set (i := 1) sc_forgets.nd rfl (Or.inl rfl) (by exact se_make (ps := ["self", "policy"]) (by exact T.mk_Memory) rfl (by exact ok_Memory_init T) (by exact hr.mono (by decide)) (by exact hgd) (by rfl) (by exact T.mC_Memory) (by exact T.b_Memory_init) (by exact (sa_cons (by exact sv_l 0) sa_nil)))) (by exact (ss_one (by exact ss_ret (by exact se_if (by exact st_truth (by exact se_meth0 (ps := ["self"]) (C := T.C_Memory) (by exact sv_l 1) rfl (by exact T.cl_Memory) (by exact T.me_Memory_is_endless) (by exact ok_Memory_is_endless T) (by exact hr.mono (by decide)) (by exact hgd) (by exact T.b_Memory_is_endless))) (by exact se_non) (by exact se_op so_add (by exact se_int) (by exact se_ixE (hu65 hr) (by exact se_fld (C := T.C_Memory) (by exact sv_l 1) rfl (by exact T.cl_Memory) (by exact T.na_Memory_ranks)) (by exact se_meth0 (ps := ["self"]) (C := T.C_Memory) (by exact sv_l 1) rfl (by exact T.cl_Memory) (by exact T.me_Memory_longest) (by exact ok_Memory_longest T) (by exact hr.mono (by decide)) (by exact hgd) (by exact T.b_Memory_longest)))))))))))
theorem ok__law_later (T : Top K mg) : FnG P w K mg base 1 T.f__law_later T.d__law_later ["_law_table_here", "_law_spot"] (spF K (T.ct P w) m__law_later 2) := fn_sim T.F__law_later sc__law_later fun cdv A outer s H E hr hgd =>
  (ss_cons (by exact ss_asg (by exact sv_l 0) (by exact (sg_or2 (sg_tup rfl (sgs_cons (by exact (sg_name (ws := [2, 3]) (i := 2) sc__law_later.nd rfl (Or.inl rfl) (by decide))) (sgs_cons (by exact (sg_name (ws := [2, 3]) (i := 3) sc__law_later.nd rfl (Or.inl rfl) (by decide))) sgs_nil))) (sg_unl rfl (sgs_cons (by exact (sg_name (ws := [2, 3]) (i := 2) sc__law_later.nd rfl (Or.inl rfl) (by decide))) (sgs_cons (by exact (sg_name (ws := [2, 3]) (i := 3) sc__law_later.nd rfl (Or.inl rfl) (by decide))) sgs_nil)))))) (by exact (ss_cons (by exact ss_asg (by exact sv_l 1) (by exact (sg_or2 (sg_tup rfl (sgs_cons (by exact (sg_name (ws := [4, 5]) (i := 4) sc__law_later.nd rfl (Or.inl rfl) (by decide))) (sgs_cons (by exact (sg_name (ws := [4, 5]) (i := 5) sc__law_later.nd rfl (Or.inr rfl) (by decide))) sgs_nil))) (sg_unl rfl (sgs_cons (by exact (sg_name (ws := [4, 5]) (i := 4) sc__law_later.nd rfl (Or.inl rfl) (by decide))) (sgs_cons (by exact (sg_name (ws := [4, 5]) (i := 5) sc__law_later.nd rfl (Or.inr rfl) (by decide))) sgs_nil)))))) (by exact (ss_cons (by exact ss_asg (by exact se_ixE (hu65 hr) (by exact sv_l 3) (by exact sv_l 4)) (by exact (sg_or2 (sg_tup rfl (sgs_cons (by exact (sg_name (ws := [6, 7, 8]) (i := 6) sc__law_later.nd rfl (Or.inl rfl) (by decide))) (sgs_cons (by exact (sg_name (ws := [6, 7, 8]) (i := 7) sc__law_later.nd rfl (Or.inl rfl) (by decide))) (sgs_cons (by exact (sg_name (ws := [6, 7, 8]) (i := 8) sc__law_later.nd rfl (Or.inr rfl) (by decide))) sgs_nil)))) (sg_unl rfl (sgs_cons (by exact (sg_name (ws := [6, 7, 8]) (i := 6) sc__law_later.nd rfl (Or.inl rfl) (by decide))) (sgs_cons (by exact (sg_name (ws := [6, 7, 8]) (i := 7) sc__law_later.nd rfl (Or.inl rfl) (by decide))) (sgs_cons (by exact (sg_name (ws := [6, 7, 8]) (i := 8) sc__law_later.nd rfl (Or.inr rfl) (by decide))) sgs_nil))))))) (by exact (ss_cons (by exact ss_setLc (i := 9) (own := [("_law_line", 10)]) rfl sc__law_later.nd rfl rfl (sw_true rfl rfl rfl (by decide +kernel)) (by exact (si_range1 rfl (by exact T.n_range) (by exact sv_l 2))) (blkOk_by (N := ["_law_table_here", "_law_spot", "_law_lines", "_law_rows", "_law_state", "_law_marks", "_law_victim", "_law_behind", "_law_hits", "_law_goals", "_law_line"]) (sc := defScope s__law_later) (own := [("_law_line", 10)]) (by decide +kernel)) (fun _ _ _ _ _ => (by exact (sg_name (ws := [10]) (i := 10) sc__law_later.nd rfl (Or.inl rfl) (by decide)))) (fun _ _ _ _ _ => (sts_one (by exact st_cmp (by exact so_eq hr.units) (by exact se_ixE (hu65 hr) (by exact sv_f 5) (by exact sv_l 10)) (by exact se_int) (nomark _)))) (fun _ _ _ _ _ => (by exact se_tup (by exact (sa_cons (by exact sv_l 10) (sa_cons (by exact se_tup (by exact (sa_cons (by exact se_ixE (hu65 hr) (by exact sv_f 8) (by exact sv_l 10)) (sa_cons (by exact se_op so_add (by exact se_op so_add (by exact se_slice (by exact sv_f 5) so_none (by exact so_some (by exact sv_l 10))) (by exact se_tup (by exact (sa_cons (by exact se_int) sa_nil)))) (by exact se_slice (by exact sv_f 5) (by exact so_some (by exact se_op so_add (by exact sv_l 10) (by exact se_int))) so_none)) sa_nil)))) sa_nil)))))) (by exact (ss_one (by exact ss_ret (by exact se_op so_add (by exact sv_l 9) (by exact se_lst (by exact (sa_cons (by exact se_tup (by exact (sa_cons (by exact sv_l 2) (sa_cons (by exact se_tup (by exact (sa_cons (by exact sv_l 7) (sa_cons (by exact se_op so_add (by exact se_op so_add (by exact se_slice (by exact sv_c 5) so_none (by exact so_some (by exact sv_l 6))) (by exact se_tup (by exact (sa_cons (by exact se_int) sa_nil)))) (by exact se_slice (by exact sv_c 5) (by exact so_some (by exact se_op so_add (by exact sv_l 6) (by exact se_int))) so_none)) sa_nil)))) sa_nil)))) sa_nil))))))))))))))
theorem ok__law_begun (T : Top K mg) : FnG P w K mg base 1 T.f__law_begun T.d__law_begun ["_law_table_here"] (spF K (T.ct P w) m__law_begun 1) := fn_sim T.F__law_begun sc__law_begun fun cdv A outer s H E hr hgd =>
  (ss_cons (by exact ss_asg (by exact sv_l 0) (by exact (sg_or2 (sg_tup rfl (sgs_cons (by exact (sg_name (ws := [1, 2]) (i := 1) sc__law_begun.nd rfl (Or.inl rfl) (by decide))) (sgs_cons (by exact (sg_name (ws := [1, 2]) (i := 2) sc__law_begun.nd rfl (Or.inl rfl) (by decide))) sgs_nil))) (sg_unl rfl (sgs_cons (by exact (sg_name (ws := [1, 2]) (i := 1) sc__law_begun.nd rfl (Or.inl rfl) (by decide))) (sgs_cons (by exact (sg_name (ws := [1, 2]) (i := 2) sc__law_begun.nd rfl (Or.inl rfl) (by decide))) sgs_nil)))))) (by exact (ss_cons (by exact ss_set (i := 3) sc__law_begun.nd rfl (Or.inl rfl) (by exact se_tup (by exact (sa_cons (by exact se_int) (sa_cons (by exact se_op so_mul (by exact se_tup (by exact (sa_cons (by exact se_bl) sa_nil))) (by exact sv_l 1)) sa_nil))))) (by exact (ss_cons (by exact ss_par3 (i := 4) (j := 5) (l := 6) rfl sc__law_begun.nd rfl rfl rfl (by decide) (by decide) (by decide) rfl rfl rfl (by exact (sa_cons (by exact se_or2 (by exact se_dict1N (hu65 hr) (by exact sv_l 3) (by exact se_tup (by exact sa_nil))) (by exact se_dict1K (by exact sv_l 3) (by exact se_tup (by exact sa_nil)))) (sa_cons (by exact se_lst (by exact (sa_cons (by exact sv_l 3) sa_nil))) (sa_cons (by exact se_int) sa_nil)))) (by rfl)) (by exact (ss_cons (by exact ss_while 1000000 PassesOwn.never (by exact st_cmp so_lt (by exact sv_l 6) (by exact se_callB sc_lenE (by rfl) (by exact T.n_len) (by decide +kernel) (by exact (sa_cons (by exact sv_l 5) sa_nil))) (nomark _)) (by exact (ss_cons (by exact ss_asg (by exact se_ixE (hu65 hr) (by exact sv_l 5) (by exact sv_l 6)) (by exact (sg_or2 (sg_tup rfl (sgs_cons (by exact (sg_name (ws := [7, 8]) (i := 7) sc__law_begun.nd rfl (Or.inl rfl) (by decide))) (sgs_cons (by exact (sg_name (ws := [7, 8]) (i := 8) sc__law_begun.nd rfl (Or.inr rfl) (by decide))) sgs_nil))) (sg_unl rfl (sgs_cons (by exact (sg_name (ws := [7, 8]) (i := 7) sc__law_begun.nd rfl (Or.inl rfl) (by decide))) (sgs_cons (by exact (sg_name (ws := [7, 8]) (i := 8) sc__law_begun.nd rfl (Or.inr rfl) (by decide))) sgs_nil)))))) (by exact (ss_cons (by exact ss_asg (by exact se_ixE (hu65 hr) (by exact sv_l 2) (by exact sv_l 7)) (by exact (sg_or2 (sg_tup rfl (sgs_cons (by exact (sg_name (ws := [9, 10, 11]) (i := 9) sc__law_begun.nd rfl (Or.inl rfl) (by decide))) (sgs_cons (by exact (sg_name (ws := [9, 10, 11]) (i := 10) sc__law_begun.nd rfl (Or.inl rfl) (by decide))) (sgs_cons (by exact (sg_name (ws := [9, 10, 11]) (i := 11) sc__law_begun.nd rfl (Or.inr rfl) (by decide))) sgs_nil)))) (sg_unl rfl (sgs_cons (by exact (sg_name (ws := [9, 10, 11]) (i := 9) sc__law_begun.nd rfl (Or.inl rfl) (by decide))) (sgs_cons (by exact (sg_name (ws := [9, 10, 11]) (i := 10) sc__law_begun.nd rfl (Or.inl rfl) (by decide))) (sgs_cons (by exact (sg_name (ws := [9, 10, 11]) (i := 11) sc__law_begun.nd rfl (Or.inr rfl) (by decide))) sgs_nil))))))) (by exact (ss_cons (by exact ss_setLc (i := 12) (own := [("_law_line", 15)]) rfl sc__law_begun.nd rfl rfl (sw_true rfl rfl rfl (by decide +kernel)) (by exact (si_range1 rfl (by exact T.n_range) (by exact sv_l 1))) (blkOk_by (N := ["_law_table_here", "_law_lines", "_law_rows", "_law_begin", "_law_ways", "_law_queue_here", "_law_at", "_law_state", "_law_filled", "_law_victim", "_law_behind", "_law_hits", "_law_goals", "_law_move", "_law_goal", "_law_line"]) (sc := defScope s__law_begun) (own := [("_law_line", 15)]) (by decide +kernel)) (fun _ _ _ _ _ => (by exact (sg_name (ws := [15]) (i := 15) sc__law_begun.nd rfl (Or.inl rfl) (by decide)))) (fun _ _ _ _ _ => (sts_one (by exact st_truth (by exact se_ixE (hu65 hr) (by exact sv_f 8) (by exact sv_l 15))))) (fun _ _ _ _ _ => (by exact se_tup (by exact (sa_cons (by exact sv_l 15) (sa_cons (by exact se_tup (by exact (sa_cons (by exact se_ixE (hu65 hr) (by exact sv_f 11) (by exact sv_l 15)) (sa_cons (by exact sv_f 8) sa_nil)))) sa_nil)))))) (by exact (ss_cons (by exact ss_expr (by exact (se_bm PySem.F.plainAttrs_list PySem.F.slot_list_append PySem.F.type_list_append sm_append (by exact sv_l 12) (by exact (sa_cons (by exact se_tup (by exact (sa_cons (by exact sv_l 1) (sa_cons (by exact se_tup (by exact (sa_cons (by exact sv_l 10) (sa_cons (by exact se_op so_add (by exact se_op so_add (by exact se_slice (by exact sv_c 8) so_none (by exact so_some (by exact sv_l 9))) (by exact se_tup (by exact (sa_cons (by exact se_bl) sa_nil)))) (by exact se_slice (by exact sv_c 8) (by exact so_some (by exact se_op so_add (by exact sv_l 9) (by exact se_int))) so_none)) sa_nil)))) sa_nil)))) sa_nil))))) (by exact (ss_cons (by exact ss_for PassesOwn.never rfl (by exact (si_seq (by exact sv_l 12))) (by exact (sg_or2 (sg_tup rfl (sgs_cons (by exact (sg_name (ws := [13, 14]) (i := 13) sc__law_begun.nd rfl (Or.inl rfl) (by decide))) (sgs_cons (by exact (sg_name (ws := [13, 14]) (i := 14) sc__law_begun.nd rfl (Or.inl rfl) (by decide))) sgs_nil))) (sg_unl rfl (sgs_cons (by exact (sg_name (ws := [13, 14]) (i := 13) sc__law_begun.nd rfl (Or.inl rfl) (by decide))) (sgs_cons (by exact (sg_name (ws := [13, 14]) (i := 14) sc__law_begun.nd rfl (Or.inl rfl) (by decide))) sgs_nil))))) (by exact (ss_one (by exact ss_if (by exact st_cmp (by exact so_notinE (hu65 hr)) (by exact sv_l 14) (by exact sv_l 4) (by rfl)) (by exact (ss_cons (by exact ss_asg (by exact se_op so_add (by exact se_ixE (hu65 hr) (by exact sv_l 4) (by exact se_ixE (hu65 hr) (by exact sv_l 5) (by exact sv_l 6))) (by exact se_tup (by exact (sa_cons (by exact sv_l 13) sa_nil)))) (by exact (sg_subE (ws := []) (hu65 hr) (by exact sv_l 4) (by exact sv_l 14)))) (by exact (ss_one (by exact ss_expr (by exact (se_bm PySem.F.plainAttrs_list PySem.F.slot_list_append PySem.F.type_list_append sm_append (by exact sv_l 5) (by exact (sa_cons (by exact sv_l 14) sa_nil))))))))) (by exact ss_nil))))) (by exact (ss_one (by exact ss_set (i := 6) sc__law_begun.nd rfl (Or.inl rfl) (by exact se_op so_add (by exact sv_l 6) (by exact se_int)))))))))))))))) (by exact (ss_one (by exact ss_ret (by exact sv_l 4)))))))))))
theorem ok__law_starts (T : Top K mg) : FnG P w K mg base 2 T.f__law_starts T.d__law_starts ["_law_table_here"] (spF K (T.ct P w) m__law_starts 1) := fn_sim T.F__law_starts sc__law_starts fun cdv A outer s H E hr hgd =>
  (ss_cons (by exact ss_set (i := 1) sc__law_starts.nd rfl (Or.inl rfl) (by exact se_lst (by exact sa_nil))) (by exact (ss_cons (by exact ss_for PassesOwn.never rfl (by exact (si_keysT (by exact se_call (ps := ["_law_table_here"]) (by exact ok__law_begun T) (by exact hr.mono (by decide)) (by exact hgd) (by rfl) (by exact T.m__law_begun) (by exact T.F__law_begun.kp) (by exact T.b__law_begun) (by exact (sa_cons (by exact sv_l 0) sa_nil))))) (by exact (sg_or2 (sg_tup rfl (sgs_cons (by exact (sg_name (ws := [2, 3]) (i := 2) sc__law_starts.nd rfl (Or.inl rfl) (by decide))) (sgs_cons (by exact (sg_name (ws := [2, 3]) (i := 3) sc__law_starts.nd rfl (Or.inl rfl) (by decide))) sgs_nil))) (sg_unl rfl (sgs_cons (by exact (sg_name (ws := [2, 3]) (i := 2) sc__law_starts.nd rfl (Or.inl rfl) (by decide))) (sgs_cons (by exact (sg_name (ws := [2, 3]) (i := 3) sc__law_starts.nd rfl (Or.inl rfl) (by decide))) sgs_nil))))) (by exact (ss_one (by exact ss_if (by exact st_cmp (by exact so_inE (hu65 hr)) (by exact se_bl) (by exact sv_l 3) (by rfl)) (by exact (ss_one (by exact ss_expr (by exact (se_bm PySem.F.plainAttrs_list PySem.F.slot_list_append PySem.F.type_list_append sm_append (by exact sv_l 1) (by exact (sa_cons (by exact se_tup (by exact (sa_cons (by exact sv_l 2) (sa_cons (by exact se_callTy sc_tuple (by rfl) (by exact T.n_tuple) (by decide +kernel) (by exact (sa_cons (by exact se_comp (own := [("_law_mark", 4)]) rfl sc__law_starts.nd (by exact (si_seq (by exact sv_l 3))) (blkOk_by (N := ["_law_table_here", "_law_found", "_law_state", "_law_filled", "_law_mark"]) (sc := defScope s__law_starts) (own := [("_law_mark", 4)]) (by decide +kernel)) (fun _ _ _ _ _ => (by exact (sg_name (ws := [4]) (i := 4) sc__law_starts.nd rfl (Or.inl rfl) (by decide)))) (fun _ _ _ _ _ => sts_nil) (fun _ _ _ _ _ => (by exact se_if (by exact st_truth (by exact sv_l 4)) (by exact se_int) (by exact se_non)))) sa_nil))) sa_nil)))) sa_nil))))))) (by exact ss_nil))))) (by exact (ss_one (by exact ss_ret (by exact sv_l 1)))))))
theorem ok__law_forgotten (T : Top K mg) : FnG P w K mg base 3 T.f__law_forgotten T.d__law_forgotten ["_law_table_here"] (spF K (T.ct P w) m__law_forgotten 1) := fn_sim T.F__law_forgotten sc__law_forgotten fun cdv A outer s H E hr hgd =>
  (ss_cons (by exact ss_par (i := 1) (j := 2) rfl sc__law_forgotten.nd rfl rfl (by decide) rfl rfl (by exact (sa_cons (by exact se_call (ps := ["_law_table_here"]) (by exact ok__law_starts T) (by exact hr.mono (by decide)) (by exact hgd) (by rfl) (by exact T.m__law_starts) (by exact T.F__law_starts.kp) (by exact T.b__law_starts) (by exact (sa_cons (by exact sv_l 0) sa_nil))) (sa_cons (by exact se_int) sa_nil))) (by rfl)) (by exact (ss_cons (by exact ss_while 1000000 PassesOwn.never (by exact st_cmp (by exact so_ne hr.units) (by exact sv_l 1) (by exact se_lst (by exact sa_nil)) (nomark _)) (by exact (ss_cons (by exact ss_set (i := 2) sc__law_forgotten.nd rfl (Or.inl rfl) (by exact se_op so_add (by exact sv_l 2) (by exact se_int))) (by exact (ss_cons (by exact ss_if (by exact st_cmp so_gt (by exact sv_l 2) (by exact se_op so_add (by exact se_op so_mul (by exact se_callB sc_lenE (by rfl) (by exact T.n_len) (by decide +kernel) (by exact (sa_cons (by exact se_ixE (hu65 hr) (by exact sv_l 0) (by exact se_int)) sa_nil))) (by exact se_ixE (hu65 hr) (by exact se_lst (by exact (sa_cons (by exact se_int) (sa_cons (by exact se_int) (sa_cons (by exact se_int) (sa_cons (by exact se_int) sa_nil)))))) (by exact se_op so_sub (by exact se_ixE (hu65 hr) (by exact sv_l 0) (by exact se_int)) (by exact se_int)))) (by exact se_int)) (nomark _)) (by exact (ss_one (by exact ss_ret (by exact se_non)))) (by exact ss_nil)) (by exact (ss_cons (by exact ss_set (i := 3) sc__law_forgotten.nd rfl (Or.inl rfl) (by exact se_dnew)) (by exact (ss_cons (by exact ss_for PassesOwn.never rfl (by exact (si_seq (by exact sv_l 1))) (by exact (sg_name (ws := [4]) (i := 4) sc__law_forgotten.nd rfl (Or.inl rfl) (by decide))) (by exact (ss_one (by exact ss_for PassesOwn.never rfl (by exact (si_seq (by exact se_call (ps := ["_law_table_here", "_law_spot"]) (by exact ok__law_later T) (by exact hr.mono (by decide)) (by exact hgd) (by rfl) (by exact T.m__law_later) (by exact T.F__law_later.kp) (by exact T.b__law_later) (by exact (sa_cons (by exact sv_l 0) (sa_cons (by exact sv_l 4) sa_nil)))))) (by exact (sg_or2 (sg_tup rfl (sgs_cons (by exact (sg_name (ws := [5, 6]) (i := 5) sc__law_forgotten.nd rfl (Or.inl rfl) (by decide))) (sgs_cons (by exact (sg_name (ws := [5, 6]) (i := 6) sc__law_forgotten.nd rfl (Or.inl rfl) (by decide))) sgs_nil))) (sg_unl rfl (sgs_cons (by exact (sg_name (ws := [5, 6]) (i := 5) sc__law_forgotten.nd rfl (Or.inl rfl) (by decide))) (sgs_cons (by exact (sg_name (ws := [5, 6]) (i := 6) sc__law_forgotten.nd rfl (Or.inl rfl) (by decide))) sgs_nil))))) (by exact (ss_one (by exact ss_if (by exact st_cmp (by exact so_inE (hu65 hr)) (by exact se_int) (by exact se_ixE (hu65 hr) (by exact sv_l 6) (by exact se_int)) (by rfl)) (by exact (ss_one (by exact ss_asg (by exact se_bl) (by exact (sg_subE (ws := []) (hu65 hr) (by exact sv_l 3) (by exact sv_l 6)))))) (by exact ss_nil)))))))) (by exact (ss_one (by exact ss_set (i := 1) sc__law_forgotten.nd rfl (Or.inl rfl) (by exact se_callTy (sc_listG rfl) (by rfl) (by exact T.n_list) (by decide +kernel) (by exact (sa_cons (by exact sv_l 3) sa_nil))))))))))))))) (by exact (ss_one (by exact ss_ret (by exact sv_l 2)))))))
theorem ok__law_asked (T : Top K mg) : FnG P w K mg base 7 T.f__law_asked T.d__law_asked ["_law_table_here"] (spF K (T.ct P w) m__law_asked 1) := fn_sim T.F__law_asked sc__law_asked fun cdv A outer s H E hr hgd =>
  (ss_one (by exact ss_ret (by exact se_cmp (by exact so_eq hr.units) (by exact se_callB (sc_reprE (by exact hgd) hr.units) (by rfl) (by exact T.n_repr) (by decide +kernel) (by exact (sa_cons (by exact se_lst (by exact (sa_cons (by exact se_call (ps := ["policy"]) (by exact ok_forgets T) (by exact hr.mono (by decide)) (by exact hgd) (by rfl) (by exact T.m_forgets) (by exact T.F_forgets.kp) (by exact T.b_forgets) (by exact (sa_cons (by exact sv_l 0) sa_nil))) (sa_cons (by exact se_callK (ps := ["policy"]) (ks := ["policy"]) (by exact ok_forgets T) (by exact hr.mono (by decide)) (by exact hgd) (by rfl) (by exact T.m_forgets) (by exact T.F_forgets.kp) (by exact T.kw_forgets_0) (sk_cons (by exact sv_l 0) sk_nil)) (sa_cons (by exact se_call (ps := ["policy"]) (by exact ok_forgets T) (by exact hr.mono (by decide)) (by exact hgd) (by rfl) (by exact T.m_forgets) (by exact T.F_forgets.kp) (by exact T.b_forgets) (by exact (sa_cons (by exact sv_l 0) sa_nil))) sa_nil))))) sa_nil))) (by exact se_callB (sc_reprE (by exact hgd) hr.units) (by rfl) (by exact T.n_repr) (by decide +kernel) (by exact (sa_cons (by exact se_op so_mul (by exact se_lst (by exact (sa_cons (by exact se_call (ps := ["_law_table_here"]) (by exact ok__law_forgotten T) (by exact hr.mono (by decide)) (by exact hgd) (by rfl) (by exact T.m__law_forgotten) (by exact T.F__law_forgotten.kp) (by exact T.b__law_forgotten) (by exact (sa_cons (by exact sv_l 0) sa_nil))) sa_nil))) (by exact se_int)) sa_nil))) (nomark _))))
theorem ok__law_draw (T : Top K mg) : FnG P w K mg base 1 T.f__law_draw T.d__law_draw ["_law_pool_here", "_law_most"] (spF K (T.ct P w) m__law_draw 2) := fn_sim T.F__law_draw sc__law_draw fun cdv A outer s H E hr hgd =>
  (ss_cons (by exact ss_asg (by exact se_op so_add (by exact se_ixE (hu65 hr) (by exact sv_l 0) (by exact se_int)) (by exact se_int)) (by exact (sg_subE (ws := []) (hu65 hr) (by exact sv_l 0) (by exact se_int)))) (by exact (ss_cons (by exact ss_set (i := 2) sc__law_draw.nd rfl (Or.inl rfl) (by exact se_callTy sc_int (by rfl) (by exact T.n_int) (by decide +kernel) (by exact (sa_cons (by exact se_ixE (hu65 hr) (by exact sv_l 0) (by exact se_int)) sa_nil)))) (by exact (ss_cons (by exact ss_asg (by exact se_op so_mod (by exact se_op so_add (by exact se_op so_mul (by exact sv_l 2) (by exact se_op so_add (by exact se_op so_mod (by exact sv_l 2) (by exact se_int)) (by exact se_int))) (by exact se_op so_mul (by exact se_int) (by exact se_ixE (hu65 hr) (by exact sv_l 0) (by exact se_int)))) (by exact se_int)) (by exact (sg_subE (ws := []) (hu65 hr) (by exact sv_l 0) (by exact se_int)))) (by exact (ss_cons (by exact ss_if (by exact st_cmp so_gt (by exact se_ixE (hu65 hr) (by exact sv_l 0) (by exact se_int)) (by exact se_int) (nomark _)) (by exact (ss_cons (by exact ss_asg (by exact se_callB sc_divmod (by rfl) (by exact T.n_divmod) (by decide +kernel) (by exact (sa_cons (by exact se_ixE (hu65 hr) (by exact sv_l 0) (by exact se_int)) (sa_cons (by exact sv_l 1) sa_nil)))) (by exact (sg_or2 (sg_tup rfl (sgs_cons (by exact (sg_subE (ws := [3]) (hu65 hr) (by exact sv_l 0) (by exact se_int))) (sgs_cons (by exact (sg_name (ws := [3]) (i := 3) sc__law_draw.nd rfl (Or.inl rfl) (by decide))) sgs_nil))) (sg_unl rfl (sgs_cons (by exact (sg_subE (ws := [3]) (hu65 hr) (by exact sv_l 0) (by exact se_int))) (sgs_cons (by exact (sg_name (ws := [3]) (i := 3) sc__law_draw.nd rfl (Or.inl rfl) (by decide))) sgs_nil)))))) (by exact (ss_one (by exact ss_ret (by exact sv_l 3)))))) (by exact ss_nil)) (by exact (ss_one (by exact ss_ret (by exact se_op so_mod (by exact se_op so_fdiv (by exact se_ixE (hu65 hr) (by exact sv_l 0) (by exact se_int)) (by exact se_int)) (by exact sv_l 1))))))))))))
theorem ok__law_policy (T : Top K mg) : FnG P w K mg base 2 T.f__law_policy T.d__law_policy ["_law_pool_here", "_law_lines", "_law_states"] (spF K (T.ct P w) m__law_policy 3) := fn_sim T.F__law_policy sc__law_policy fun cdv A outer s H E hr hgd =>
  (ss_cons (by exact ss_set (i := 3) sc__law_policy.nd rfl (Or.inl rfl) (by exact se_lst (by exact sa_nil))) (by exact (ss_cons (by exact ss_for PassesOwn.never rfl (by exact (si_range1 rfl (by exact T.n_range) (by exact sv_c 2))) (by exact (sg_name (ws := [4]) (i := 4) sc__law_policy.nd rfl (Or.inl rfl) (by decide))) (by exact (ss_cons (by exact ss_set (i := 5) sc__law_policy.nd rfl (Or.inl rfl) (by exact se_callTy sc_tuple (by rfl) (by exact T.n_tuple) (by decide +kernel) (by exact (sa_cons (by exact se_comp (own := [("_law_line", 6)]) rfl sc__law_policy.nd (by exact (si_range1 rfl (by exact T.n_range) (by exact sv_l 1))) (blkOk_by (N := ["_law_pool_here", "_law_lines", "_law_states", "_law_rows", "_law_turn", "_law_hits", "_law_line"]) (sc := defScope s__law_policy) (own := [("_law_line", 6)]) (by decide +kernel)) (fun _ _ _ _ _ => (by exact (sg_name (ws := [6]) (i := 6) sc__law_policy.nd rfl (Or.inl rfl) (by decide)))) (fun _ _ _ _ _ => sts_nil) (fun _ _ _ _ _ => (by exact se_call (ps := ["_law_pool_here", "_law_most"]) (by exact ok__law_draw T) (by exact hr.mono (by decide)) (by exact hgd) (by rfl) (by exact T.m__law_draw) (by exact T.F__law_draw.kp) (by exact T.b__law_draw) (by exact (sa_cons (by exact sv_f 0) (sa_cons (by exact sv_f 2) sa_nil)))))) sa_nil)))) (by exact (ss_one (by exact ss_expr (by exact (se_bm PySem.F.plainAttrs_list PySem.F.slot_list_append PySem.F.type_list_append sm_append (by exact sv_l 3) (by exact (sa_cons (by exact se_tup (by exact (sa_cons (by exact se_call (ps := ["_law_pool_here", "_law_most"]) (by exact ok__law_draw T) (by exact hr.mono (by decide)) (by exact hgd) (by rfl) (by exact T.m__law_draw) (by exact T.F__law_draw.kp) (by exact T.b__law_draw) (by exact (sa_cons (by exact sv_c 0) (sa_cons (by exact sv_l 1) sa_nil)))) (sa_cons (by exact se_call (ps := ["_law_pool_here", "_law_most"]) (by exact ok__law_draw T) (by exact hr.mono (by decide)) (by exact hgd) (by rfl) (by exact T.m__law_draw) (by exact T.F__law_draw.kp) (by exact T.b__law_draw) (by exact (sa_cons (by exact sv_c 0) (sa_cons (by exact sv_c 2) sa_nil)))) (sa_cons (by exact sv_l 5) sa_nil))))) sa_nil)))))))))) (by exact (ss_one (by exact ss_ret (by exact se_tup (by exact (sa_cons (by exact sv_l 1) (sa_cons (by exact se_callTy sc_tuple (by rfl) (by exact T.n_tuple) (by decide +kernel) (by exact (sa_cons (by exact sv_l 3) sa_nil))) sa_nil))))))))))
theorem ok__law_queue (T : Top K mg) : FnG P w K mg base 1 T.f__law_queue T.d__law_queue ["_law_lines"] (spF K (T.ct P w) m__law_queue 1) := fn_sim T.F__law_queue sc__law_queue fun cdv A outer s H E hr hgd =>
  (ss_one (by exact ss_ret (by exact se_tup (by exact (sa_cons (by exact sv_c 0) (sa_cons (by exact se_callTy sc_tuple (by rfl) (by exact T.n_tuple) (by decide +kernel) (by exact (sa_cons (by exact se_comp (own := [("_law_at", 1)]) rfl sc__law_queue.nd (by exact (si_range1 rfl (by exact T.n_range) (by exact sv_c 0))) (blkOk_by (N := ["_law_lines", "_law_at"]) (sc := defScope s__law_queue) (own := [("_law_at", 1)]) (by decide +kernel)) (fun _ _ _ _ _ => (by exact (sg_name (ws := [1]) (i := 1) sc__law_queue.nd rfl (Or.inl rfl) (by decide)))) (fun _ _ _ _ _ => sts_nil) (fun _ _ _ _ _ => (by exact se_tup (by exact (sa_cons (by exact sv_l 1) (sa_cons (by exact se_op so_mod (by exact se_op so_add (by exact sv_l 1) (by exact se_int)) (by exact sv_f 0)) (sa_cons (by exact se_op so_mul (by exact se_tup (by exact (sa_cons (by exact sv_l 1) sa_nil))) (by exact sv_f 0)) sa_nil))))))) sa_nil))) sa_nil))))))
theorem ok__law_recent (T : Top K mg) : FnG P w K mg base 1 T.f__law_recent T.d__law_recent ["_law_lines"] (spF K (T.ct P w) m__law_recent 1) := fn_sim T.F__law_recent sc__law_recent fun cdv A outer s H E hr hgd =>
  (ss_cons (by exact ss_asg (by exact se_tup (by exact (sa_cons (by exact se_lst (by exact (sa_cons (by exact se_tupR rfl rfl (by exact T.n_tuple) (sr_1 rfl (by exact T.n_range) (by exact sv_l 0))) sa_nil))) (sa_cons (by exact se_lst (by exact sa_nil)) (sa_cons (by exact se_int) sa_nil))))) (by exact (sg_or2 (sg_tup rfl (sgs_cons (by exact (sg_name (ws := [1, 2, 3]) (i := 1) sc__law_recent.nd rfl (Or.inr rfl) (by decide))) (sgs_cons (by exact (sg_name (ws := [1, 2, 3]) (i := 2) sc__law_recent.nd rfl (Or.inl rfl) (by decide))) (sgs_cons (by exact (sg_name (ws := [1, 2, 3]) (i := 3) sc__law_recent.nd rfl (Or.inl rfl) (by decide))) sgs_nil)))) (sg_unl rfl (sgs_cons (by exact (sg_name (ws := [1, 2, 3]) (i := 1) sc__law_recent.nd rfl (Or.inr rfl) (by decide))) (sgs_cons (by exact (sg_name (ws := [1, 2, 3]) (i := 2) sc__law_recent.nd rfl (Or.inl rfl) (by decide))) (sgs_cons (by exact (sg_name (ws := [1, 2, 3]) (i := 3) sc__law_recent.nd rfl (Or.inl rfl) (by decide))) sgs_nil))))))) (by exact (ss_cons (by exact ss_while 1000000 PassesOwn.never (by exact st_cmp so_lt (by exact sv_l 3) (by exact se_callB sc_lenE (by rfl) (by exact T.n_len) (by decide +kernel) (by exact (sa_cons (by exact sv_c 1) sa_nil))) (nomark _)) (by exact (ss_cons (by exact ss_set (i := 4) sc__law_recent.nd rfl (Or.inr rfl) (by exact se_ixE (hu65 hr) (by exact sv_c 1) (by exact sv_l 3))) (by exact (ss_cons (by exact ss_setLc (i := 5) (own := [("_law_line", 6)]) rfl sc__law_recent.nd rfl rfl (sw_true rfl rfl rfl (by decide +kernel)) (by exact (si_range1 rfl (by exact T.n_range) (by exact sv_l 0))) (blkOk_by (N := ["_law_lines", "_law_orders", "_law_rows", "_law_at", "_law_here", "_law_goals", "_law_line", "_law_spot", "_law_goal"]) (sc := defScope s__law_recent) (own := [("_law_line", 6)]) (by decide +kernel)) (fun _ _ _ _ _ => (by exact (sg_name (ws := [6]) (i := 6) sc__law_recent.nd rfl (Or.inr rfl) (by decide)))) (fun _ _ _ _ _ => sts_nil) (fun _ _ _ _ _ => (by exact se_op so_add (by exact se_callTy sc_tuple (by rfl) (by exact T.n_tuple) (by decide +kernel) (by exact (sa_cons (by exact se_comp (own := [("_law_spot", 7)]) rfl sc__law_recent.nd (by exact (si_seq (by exact sv_f 4))) (blkOk_by (own := [("_law_spot", 7)]) (by first | rfl | kernel_rfl)) (fun _ _ _ _ _ => (by exact (sg_name (ws := [7]) (i := 7) sc__law_recent.nd rfl (Or.inl rfl) (by decide)))) (fun _ _ _ _ _ => (sts_one (by exact st_cmp (by exact so_ne hr.units) (by exact sv_l 7) (by exact sv_f 6) (nomark _)))) (fun _ _ _ _ _ => (by exact sv_l 7))) sa_nil))) (by exact se_tup (by exact (sa_cons (by exact sv_c 6) sa_nil)))))) (by exact (ss_cons (by exact ss_expr (by exact (se_bm PySem.F.plainAttrs_list PySem.F.slot_list_extend PySem.F.type_list_extend sm_extend (by exact sv_c 1) (by exact (sa_cons (by exact se_comp (own := [("_law_goal", 8)]) rfl sc__law_recent.nd (by exact (si_seq (by exact sv_l 5))) (blkOk_by (N := ["_law_lines", "_law_orders", "_law_rows", "_law_at", "_law_here", "_law_goals", "_law_line", "_law_spot", "_law_goal"]) (sc := defScope s__law_recent) (own := [("_law_goal", 8)]) (by decide +kernel)) (fun _ _ _ _ _ => (by exact (sg_name (ws := [8]) (i := 8) sc__law_recent.nd rfl (Or.inl rfl) (by decide)))) (fun _ _ _ _ _ => (sts_one (by exact st_cmp (by exact so_notinE (hu65 hr)) (by exact sv_l 8) (by exact sv_f 1) (by rfl)))) (fun _ _ _ _ _ => (by exact sv_l 8))) sa_nil))))) (by exact (ss_cons (by exact ss_expr (by exact (se_bm PySem.F.plainAttrs_list PySem.F.slot_list_append PySem.F.type_list_append sm_append (by exact sv_l 2) (by exact (sa_cons (by exact se_tup (by exact (sa_cons (by exact se_ixE (hu65 hr) (by exact sv_c 4) (by exact se_int)) (sa_cons (by exact se_or2 (se_bm PySem.F.plainAttrs_list PySem.F.slot_list_index PySem.F.type_list_index (sm_index (hu65 hr)) (by exact sv_c 1) (by exact (sa_cons (by exact se_ixE (hu65 hr) (by exact sv_l 5) (by exact se_ixE (hu65 hr) (by exact sv_c 4) (by exact se_int))) sa_nil))) (se_bm PySem.F.plainAttrs_tuple PySem.F.slot_tuple_index PySem.F.type_tuple_index sm_tindex (by exact sv_c 1) (by exact (sa_cons (by exact se_ixE (hu65 hr) (by exact sv_l 5) (by exact se_ixE (hu65 hr) (by exact sv_c 4) (by exact se_int))) sa_nil)))) (sa_cons (by exact se_callTy sc_tuple (by rfl) (by exact T.n_tuple) (by decide +kernel) (by exact (sa_cons (by exact se_comp (own := [("_law_goal", 8)]) rfl sc__law_recent.nd (by exact (si_seq (by exact sv_l 5))) (blkOk_by (N := ["_law_lines", "_law_orders", "_law_rows", "_law_at", "_law_here", "_law_goals", "_law_line", "_law_spot", "_law_goal"]) (sc := defScope s__law_recent) (own := [("_law_goal", 8)]) (by decide +kernel)) (fun _ _ _ _ _ => (by exact (sg_name (ws := [8]) (i := 8) sc__law_recent.nd rfl (Or.inl rfl) (by decide)))) (fun _ _ _ _ _ => sts_nil) (fun _ _ _ _ _ => (by exact se_or2 (se_bm PySem.F.plainAttrs_list PySem.F.slot_list_index PySem.F.type_list_index (sm_index (hu65 hr)) (by exact sv_f 1) (by exact (sa_cons (by exact sv_l 8) sa_nil))) (se_bm PySem.F.plainAttrs_tuple PySem.F.slot_tuple_index PySem.F.type_tuple_index sm_tindex (by exact sv_f 1) (by exact (sa_cons (by exact sv_l 8) sa_nil)))))) sa_nil))) sa_nil))))) sa_nil))))) (by exact (ss_one (by exact ss_set (i := 3) sc__law_recent.nd rfl (Or.inl rfl) (by exact se_op so_add (by exact sv_l 3) (by exact se_int)))))))))))))) (by exact (ss_one (by exact ss_ret (by exact se_tup (by exact (sa_cons (by exact sv_l 0) (sa_cons (by exact se_callTy sc_tuple (by rfl) (by exact T.n_tuple) (by decide +kernel) (by exact (sa_cons (by exact sv_l 2) sa_nil))) sa_nil))))))))))
theorem ok__law_table (T : Top K mg) : FnG P w K mg base 3 T.f__law_table T.d__law_table ["_law_pool_here"] (spF K (T.ct P w) m__law_table 1) := fn_sim T.F__law_table sc__law_table fun cdv A outer s H E hr hgd =>
  (ss_cons (by exact ss_set (i := 1) sc__law_table.nd rfl (Or.inl rfl) (by exact se_op so_add (by exact se_int) (by exact se_call (ps := ["_law_pool_here", "_law_most"]) (by exact ok__law_draw T) (by exact hr.mono (by decide)) (by exact hgd) (by rfl) (by exact T.m__law_draw) (by exact T.F__law_draw.kp) (by exact T.b__law_draw) (by exact (sa_cons (by exact sv_l 0) (sa_cons (by exact se_int) sa_nil)))))) (by exact (ss_cons (by exact ss_set (i := 2) sc__law_table.nd rfl (Or.inl rfl) (by exact se_lst (by exact (sa_cons (by exact se_call (ps := ["_law_lines"]) (by exact ok__law_recent T) (by exact hr.mono (by decide)) (by exact hgd) (by rfl) (by exact T.m__law_recent) (by exact T.F__law_recent.kp) (by exact T.b__law_recent) (by exact (sa_cons (by exact sv_l 1) sa_nil))) (sa_cons (by exact se_call (ps := ["_law_lines"]) (by exact ok__law_queue T) (by exact hr.mono (by decide)) (by exact hgd) (by rfl) (by exact T.m__law_queue) (by exact T.F__law_queue.kp) (by exact T.b__law_queue) (by exact (sa_cons (by exact sv_l 1) sa_nil))) sa_nil))))) (by exact (ss_cons (by exact ss_set (i := 3) sc__law_table.nd rfl (Or.inl rfl) (by exact se_call (ps := ["_law_pool_here", "_law_lines", "_law_states"]) (by exact ok__law_policy T) (by exact hr.mono (by decide)) (by exact hgd) (by rfl) (by exact T.m__law_policy) (by exact T.F__law_policy.kp) (by exact T.b__law_policy) (by exact (sa_cons (by exact sv_l 0) (sa_cons (by exact sv_l 1) (sa_cons (by exact se_op so_add (by exact se_int) (by exact se_call (ps := ["_law_pool_here", "_law_most"]) (by exact ok__law_draw T) (by exact hr.mono (by decide)) (by exact hgd) (by rfl) (by exact T.m__law_draw) (by exact T.F__law_draw.kp) (by exact T.b__law_draw) (by exact (sa_cons (by exact sv_l 0) (sa_cons (by exact se_int) sa_nil))))) sa_nil)))))) (by exact (ss_one (by exact ss_ret (by exact se_ixE (hu65 hr) (by exact se_op so_add (by exact sv_l 2) (by exact se_op so_mul (by exact se_lst (by exact (sa_cons (by exact sv_l 3) sa_nil))) (by exact se_int))) (by exact se_call (ps := ["_law_pool_here", "_law_most"]) (by exact ok__law_draw T) (by exact hr.mono (by decide)) (by exact hgd) (by rfl) (by exact T.m__law_draw) (by exact T.F__law_draw.kp) (by exact T.b__law_draw) (by exact (sa_cons (by exact sv_l 0) (sa_cons (by exact se_int) sa_nil)))))))))))))
theorem ok__law_right (T : Top K mg) : FnG P w K mg base 8 T.f__law_right T.d__law_right ["_law_pool_here"] (spF K (T.ct P w) m__law_right 1) := fn_sim T.F__law_right sc__law_right fun cdv A outer s H E hr hgd =>
  (ss_cons (by exact ss_set (i := 1) sc__law_right.nd rfl (Or.inl rfl) (by exact se_op so_add (by exact se_comp (own := [("_law_turn", 2)]) rfl sc__law_right.nd (by exact (si_range1 rfl (by exact T.n_range) (by exact se_int))) (blkOk_by (N := ["_law_pool_here", "_law_tables", "_law_turn", "_law_table_here"]) (sc := defScope s__law_right) (own := [("_law_turn", 2)]) (by decide +kernel)) (fun _ _ _ _ _ => (by exact (sg_name (ws := [2]) (i := 2) sc__law_right.nd rfl (Or.inl rfl) (by decide)))) (fun _ _ _ _ _ => sts_nil) (fun _ _ _ _ _ => (by exact se_call (ps := ["_law_pool_here"]) (by exact ok__law_table T) (by exact hr.mono (by decide)) (by exact hgd) (by rfl) (by exact T.m__law_table) (by exact T.F__law_table.kp) (by exact T.b__law_table) (by exact (sa_cons (by exact sv_f 0) sa_nil))))) (by exact se_lst (by exact (sa_cons (by exact se_call (ps := ["_law_pool_here", "_law_lines", "_law_states"]) (by exact ok__law_policy T) (by exact hr.mono (by decide)) (by exact hgd) (by rfl) (by exact T.m__law_policy) (by exact T.F__law_policy.kp) (by exact T.b__law_policy) (by exact (sa_cons (by exact sv_c 0) (sa_cons (by exact se_int) (sa_cons (by exact se_op so_add (by exact se_int) (by exact se_call (ps := ["_law_pool_here", "_law_most"]) (by exact ok__law_draw T) (by exact hr.mono (by decide)) (by exact hgd) (by rfl) (by exact T.m__law_draw) (by exact T.F__law_draw.kp) (by exact T.b__law_draw) (by exact (sa_cons (by exact sv_c 0) (sa_cons (by exact se_int) sa_nil))))) sa_nil))))) sa_nil))))) (by exact (ss_one (by exact ss_ret (by exact se_callB (sc_all rfl) (by rfl) (by exact T.n_all) (by decide +kernel) (by exact (sa_cons (by exact se_comp (own := [("_law_table_here", 3)]) rfl sc__law_right.nd (by exact (si_seq (by exact sv_l 1))) (blkOk_by (N := ["_law_pool_here", "_law_tables", "_law_turn", "_law_table_here"]) (sc := defScope s__law_right) (own := [("_law_table_here", 3)]) (by decide +kernel)) (fun _ _ _ _ _ => (by exact (sg_name (ws := [3]) (i := 3) sc__law_right.nd rfl (Or.inl rfl) (by decide)))) (fun _ _ _ _ _ => sts_nil) (fun _ _ _ _ _ => (by exact se_call (ps := ["_law_table_here"]) (by exact ok__law_asked T) (by exact hr.mono (by decide)) (by exact hgd) (by rfl) (by exact T.m__law_asked) (by exact T.F__law_asked.kp) (by exact T.b__law_asked) (by exact (sa_cons (by exact sv_l 3) sa_nil))))) sa_nil)))))))
theorem ok__law_pool (T : Top K mg) : FnG P w K mg base 1 T.f__law_pool T.d__law_pool ["_law_figure"] (spF K (T.ct P w) m__law_pool 1) := fn_sim T.F__law_pool sc__law_pool fun cdv A outer s H E hr hgd =>
  (ss_cons (by exact ss_set (i := 1) sc__law_pool.nd rfl (Or.inl rfl) (by exact se_if (by exact SW.st (sw_or (by exact st_cmp so_lt (by exact sv_l 0) (by exact se_int) (nomark _)) (sw_or1 (by exact st_cmp so_ge (by exact sv_l 0) (by exact se_op so_pow (by exact se_int) (by exact se_int)) (nomark _))))) (by exact se_callB sc_abs (by rfl) (by exact T.n_abs) (by decide +kernel) (by exact (sa_cons (by exact sv_l 0) sa_nil))) (by exact se_int))) (by exact (ss_one (by exact ss_ret (by exact se_lst (by exact (sa_cons (by exact se_op so_mod (by exact se_callTy sc_int (by rfl) (by exact T.n_int) (by decide +kernel) (by exact (sa_cons (by exact sv_l 0) sa_nil))) (by exact se_int)) (sa_cons (by exact sv_l 1) (sa_cons (by exact se_int) sa_nil)))))))))
theorem ok__law_cell (T : Top K mg) : FnG P w K mg base 1 T.f__law_cell T.d__law_cell ["_law_script", "_law_k"] (spF K (T.ct P w) m__law_cell 2) := fn_sim T.F__law_cell sc__law_cell fun cdv A outer s H E hr hgd =>
  (ss_cons (by exact ss_if (by exact st_cmp so_lt (by exact sv_l 1) (by exact se_callB sc_lenE (by rfl) (by exact T.n_len) (by decide +kernel) (by exact (sa_cons (by exact sv_l 0) sa_nil))) (nomark _)) (by exact (ss_one (by exact ss_ret (by exact se_callTy sc_int (by rfl) (by exact T.n_int) (by decide +kernel) (by exact (sa_cons (by exact se_ixE (hu65 hr) (by exact sv_l 0) (by exact sv_l 1)) sa_nil)))))) (by exact ss_nil)) (by exact (ss_cons (by exact ss_set (i := 2) sc__law_cell.nd rfl (Or.inl rfl) (by exact se_op so_mod (by exact se_op so_mul (by exact se_int) (by exact se_op so_add (by exact se_op so_add (by exact se_op so_mul (by exact sv_l 1) (by exact sv_l 1)) (by exact se_op so_mul (by exact se_int) (by exact sv_l 1))) (by exact se_int))) (by exact se_int))) (by exact (ss_cons (by exact ss_for PassesOwn.never rfl (by exact (si_seq (by exact se_slice (by exact sv_l 0) so_none (by exact so_some (by exact se_int))))) (by exact (sg_name (ws := [3]) (i := 3) sc__law_cell.nd rfl (Or.inl rfl) (by decide))) (by exact (ss_one (by exact ss_set (i := 2) sc__law_cell.nd rfl (Or.inl rfl) (by exact se_op so_mod (by exact se_op so_add (by exact se_op so_mul (by exact sv_l 2) (by exact se_int)) (by exact se_callTy sc_int (by rfl) (by exact T.n_int) (by decide +kernel) (by exact (sa_cons (by exact sv_l 3) sa_nil)))) (by exact se_int)))))) (by exact (ss_one (by exact ss_ret (by exact sv_l 2)))))))))
theorem ok__law_seldom (T : Top K mg) : FnG P w K mg base 1 T.f__law_seldom T.d__law_seldom [] (spF K (T.ct P w) m__law_seldom 0) := fn_sim T.F__law_seldom sc__law_seldom fun cdv A outer s H E hr hgd =>
  (ss_one (by exact ss_ret (by exact se_tup (by exact (sa_cons (by exact se_int) (sa_cons (by exact se_callTy sc_tuple (by rfl) (by exact T.n_tuple) (by decide +kernel) (by exact (sa_cons (by exact se_comp (own := [("_law_at", 0)]) rfl sc__law_seldom.nd (by exact (si_range1 rfl (by exact T.n_range) (by exact se_int))) (blkOk_by (N := ["_law_at"]) (sc := defScope s__law_seldom) (own := [("_law_at", 0)]) (by decide +kernel)) (fun _ _ _ _ _ => (by exact (sg_name (ws := [0]) (i := 0) sc__law_seldom.nd rfl (Or.inl rfl) (by decide)))) (fun _ _ _ _ _ => sts_nil) (fun _ _ _ _ _ => (by exact se_tup (by exact (sa_cons (by exact se_callTy sc_int (by rfl) (by exact T.n_int) (by decide +kernel) (by exact (sa_cons (by exact se_cmp (by exact so_eq hr.units) (by exact sv_l 0) (by exact se_int) (nomark _)) sa_nil))) (sa_cons (by exact se_op so_mod (by exact se_op so_add (by exact sv_l 0) (by exact se_int)) (by exact se_int)) (sa_cons (by exact se_tup (by exact (sa_cons (by exact sv_l 0) (sa_cons (by exact sv_l 0) sa_nil)))) sa_nil))))))) sa_nil))) sa_nil))))))
theorem ok__law_blocks (T : Top K mg) : FnG P w K mg base 1 T.f__law_blocks T.d__law_blocks ["_law_many"] (spF K (T.ct P w) m__law_blocks 1) := fn_sim T.F__law_blocks sc__law_blocks fun cdv A outer s H E hr hgd =>
  (ss_cons (by exact ss_setLc (i := 1) (own := [("_law_at", 2)]) rfl sc__law_blocks.nd rfl rfl (sw_true rfl rfl rfl (by decide +kernel)) (by exact (si_range1 rfl (by exact T.n_range) (by exact se_op so_mul (by exact se_int) (by exact sv_c 0)))) (blkOk_by (N := ["_law_many", "_law_rows", "_law_at"]) (sc := defScope s__law_blocks) (own := [("_law_at", 2)]) (by decide +kernel)) (fun _ _ _ _ _ => (by exact (sg_name (ws := [2]) (i := 2) sc__law_blocks.nd rfl (Or.inl rfl) (by decide)))) (fun _ _ _ _ _ => sts_nil) (fun _ _ _ _ _ => (by exact se_tup (by exact (sa_cons (by exact se_op so_fdiv (by exact sv_l 2) (by exact sv_f 0)) (sa_cons (by exact se_op so_mod (by exact se_op so_add (by exact sv_l 2) (by exact se_int)) (by exact se_op so_mul (by exact se_int) (by exact sv_f 0))) (sa_cons (by exact se_op so_mul (by exact se_tup (by exact (sa_cons (by exact sv_l 2) sa_nil))) (by exact se_int)) sa_nil))))))) (by exact (ss_one (by exact ss_ret (by exact se_tup (by exact (sa_cons (by exact se_int) (sa_cons (by exact se_callTy sc_tuple (by rfl) (by exact T.n_tuple) (by decide +kernel) (by exact (sa_cons (by exact sv_l 1) sa_nil))) sa_nil))))))))
theorem ok__law_lasting (T : Top K mg) : FnG P w K mg base 1 T.f__law_lasting T.d__law_lasting [] (spF K (T.ct P w) m__law_lasting 0) := fn_sim T.F__law_lasting sc__law_lasting fun cdv A outer s H E hr hgd =>
  (ss_cons (by exact ss_setLc (i := 0) (own := [("_law_at", 1)]) rfl sc__law_lasting.nd rfl rfl (sw_true rfl rfl rfl (by decide +kernel)) (by exact (si_range1 rfl (by exact T.n_range) (by exact se_int))) (blkOk_by (N := ["_law_rows", "_law_at"]) (sc := defScope s__law_lasting) (own := [("_law_at", 1)]) (by decide +kernel)) (fun _ _ _ _ _ => (by exact (sg_name (ws := [1]) (i := 1) sc__law_lasting.nd rfl (Or.inl rfl) (by decide)))) (fun _ _ _ _ _ => sts_nil) (fun _ _ _ _ _ => (by exact se_tup (by exact (sa_cons (by exact se_ixE (hu65 hr) (by exact se_tup (by exact (sa_cons (by exact se_int) (sa_cons (by exact se_int) (sa_cons (by exact se_int) (sa_cons (by exact se_int) sa_nil)))))) (by exact se_op so_fdiv (by exact sv_l 1) (by exact se_int))) (sa_cons (by exact se_if (by exact st_cmp so_lt (by exact sv_l 1) (by exact se_int) (nomark _)) (by exact se_op so_add (by exact sv_l 1) (by exact se_int)) (by exact se_int)) (sa_cons (by exact se_op so_mul (by exact se_tup (by exact (sa_cons (by exact sv_l 1) sa_nil))) (by exact se_int)) sa_nil))))))) (by exact (ss_one (by exact ss_ret (by exact se_tup (by exact (sa_cons (by exact se_int) (sa_cons (by exact se_callTy sc_tuple (by rfl) (by exact T.n_tuple) (by decide +kernel) (by exact (sa_cons (by exact sv_l 0) sa_nil))) sa_nil))))))))
theorem ok_law (T : Top K mg) : FnG P w K mg base 9 T.f_law T.d_law ["_law_script"] (spF K (T.ct P w) m_law 1) := fn_sim T.F_law sc_law fun cdv A outer s H E hr hgd =>
  (ss_cons (by exact ss_if (by exact SW.st (sw_or (by exact st_cmp (by exact so_ne hr.units) (by exact se_comp (own := [("_law_many", 2)]) rfl sc_law.nd (by exact (si_seq (by exact se_lst (by exact (sa_cons (by exact se_int) (sa_cons (by exact se_int) (sa_cons (by exact se_int) (sa_cons (by exact se_int) sa_nil)))))))) (blkOk_by (N := ["_law_script", "_law_some", "_law_many", "_law_lines", "_law_due", "_law_table_here", "_law_k"]) (sc := defScope s_law) (own := [("_law_many", 2)]) (by decide +kernel)) (fun _ _ _ _ _ => (by exact (sg_name (ws := [2]) (i := 2) sc_law.nd rfl (Or.inl rfl) (by decide)))) (fun _ _ _ _ _ => sts_nil) (fun _ _ _ _ _ => (by exact se_call (ps := ["policy"]) (by exact ok_forgets T) (by exact hr.mono (by decide)) (by exact hgd) (by rfl) (by exact T.m_forgets) (by exact T.F_forgets.kp) (by exact T.b_forgets) (by exact (sa_cons (by exact se_call (ps := ["_law_many"]) (by exact ok__law_blocks T) (by exact hr.mono (by decide)) (by exact hgd) (by rfl) (by exact T.m__law_blocks) (by exact T.F__law_blocks.kp) (by exact T.b__law_blocks) (by exact (sa_cons (by exact sv_l 2) sa_nil))) sa_nil))))) (by exact se_lst (by exact (sa_cons (by exact se_int) (sa_cons (by exact se_int) (sa_cons (by exact se_int) (sa_cons (by exact se_int) sa_nil)))))) (nomark _)) (sw_or1 (by exact st_cmp so_isnotE (by exact se_call (ps := ["policy"]) (by exact ok_forgets T) (by exact hr.mono (by decide)) (by exact hgd) (by rfl) (by exact T.m_forgets) (by exact T.F_forgets.kp) (by exact T.b_forgets) (by exact (sa_cons (by exact se_call0 (ps := []) (by exact ok__law_lasting T) (by exact hr.mono (by decide)) (by exact hgd) (by rfl) (by exact T.m__law_lasting) (by exact T.F__law_lasting.kp) (by exact T.b__law_lasting)) sa_nil))) (by exact se_non) (nomark _))))) (by exact (ss_one (by exact ss_ret (by exact se_bl)))) (by exact ss_nil)) (by exact (ss_cons (by exact ss_if (by exact st_cmp (by exact so_ne hr.units) (by exact se_call (ps := ["policy"]) (by exact ok_forgets T) (by exact hr.mono (by decide)) (by exact hgd) (by rfl) (by exact T.m_forgets) (by exact T.F_forgets.kp) (by exact T.b_forgets) (by exact (sa_cons (by exact se_call0 (ps := []) (by exact ok__law_seldom T) (by exact hr.mono (by decide)) (by exact hgd) (by rfl) (by exact T.m__law_seldom) (by exact T.F__law_seldom.kp) (by exact T.b__law_seldom)) sa_nil))) (by exact se_int) (nomark _)) (by exact (ss_one (by exact ss_ret (by exact se_bl)))) (by exact ss_nil)) (by exact (ss_cons (by exact ss_if (by exact st_cmp (by exact so_ne hr.units) (by exact se_comp (own := [("_law_lines", 3)]) rfl sc_law.nd (by exact (si_seq (by exact se_lst (by exact (sa_cons (by exact se_int) (sa_cons (by exact se_int) (sa_cons (by exact se_int) (sa_cons (by exact se_int) sa_nil)))))))) (blkOk_by (N := ["_law_script", "_law_some", "_law_many", "_law_lines", "_law_due", "_law_table_here", "_law_k"]) (sc := defScope s_law) (own := [("_law_lines", 3)]) (by decide +kernel)) (fun _ _ _ _ _ => (by exact (sg_name (ws := [3]) (i := 3) sc_law.nd rfl (Or.inl rfl) (by decide)))) (fun _ _ _ _ _ => sts_nil) (fun _ _ _ _ _ => (by exact se_call (ps := ["policy"]) (by exact ok_forgets T) (by exact hr.mono (by decide)) (by exact hgd) (by rfl) (by exact T.m_forgets) (by exact T.F_forgets.kp) (by exact T.b_forgets) (by exact (sa_cons (by exact se_call (ps := ["_law_lines"]) (by exact ok__law_recent T) (by exact hr.mono (by decide)) (by exact hgd) (by rfl) (by exact T.m__law_recent) (by exact T.F__law_recent.kp) (by exact T.b__law_recent) (by exact (sa_cons (by exact sv_l 3) sa_nil))) sa_nil))))) (by exact se_lst (by exact (sa_cons (by exact se_int) (sa_cons (by exact se_int) (sa_cons (by exact se_int) (sa_cons (by exact se_int) sa_nil)))))) (nomark _)) (by exact (ss_one (by exact ss_ret (by exact se_bl)))) (by exact ss_nil)) (by exact (ss_cons (by exact ss_if (by exact st_cmp (by exact so_ne hr.units) (by exact se_comp (own := [("_law_lines", 3)]) rfl sc_law.nd (by exact (si_seq (by exact se_lst (by exact (sa_cons (by exact se_int) (sa_cons (by exact se_int) (sa_cons (by exact se_int) (sa_cons (by exact se_int) sa_nil)))))))) (blkOk_by (N := ["_law_script", "_law_some", "_law_many", "_law_lines", "_law_due", "_law_table_here", "_law_k"]) (sc := defScope s_law) (own := [("_law_lines", 3)]) (by decide +kernel)) (fun _ _ _ _ _ => (by exact (sg_name (ws := [3]) (i := 3) sc_law.nd rfl (Or.inl rfl) (by decide)))) (fun _ _ _ _ _ => sts_nil) (fun _ _ _ _ _ => (by exact se_call (ps := ["policy"]) (by exact ok_forgets T) (by exact hr.mono (by decide)) (by exact hgd) (by rfl) (by exact T.m_forgets) (by exact T.F_forgets.kp) (by exact T.b_forgets) (by exact (sa_cons (by exact se_call (ps := ["_law_lines"]) (by exact ok__law_queue T) (by exact hr.mono (by decide)) (by exact hgd) (by rfl) (by exact T.m__law_queue) (by exact T.F__law_queue.kp) (by exact T.b__law_queue) (by exact (sa_cons (by exact sv_l 3) sa_nil))) sa_nil))))) (by exact se_lst (by exact (sa_cons (by exact se_int) (sa_cons (by exact se_int) (sa_cons (by exact se_int) (sa_cons (by exact se_int) sa_nil)))))) (nomark _)) (by exact (ss_one (by exact ss_ret (by exact se_bl)))) (by exact ss_nil)) (by exact (ss_cons (by exact ss_set (i := 1) sc_law.nd rfl (Or.inl rfl) (by exact se_lst (by exact (sa_cons (by exact se_tup (by exact (sa_cons (by exact se_int) (sa_cons (by exact se_tup (by exact (sa_cons (by exact se_int) (sa_cons (by exact se_tup (by exact (sa_cons (by exact se_tup (by exact (sa_cons (by exact se_int) (sa_cons (by exact se_int) (sa_cons (by exact se_tup (by exact (sa_cons (by exact se_int) (sa_cons (by exact se_int) (sa_cons (by exact se_int) sa_nil))))) sa_nil))))) sa_nil))) sa_nil)))) sa_nil)))) (sa_cons (by exact se_tup (by exact (sa_cons (by exact se_non) (sa_cons (by exact se_tup (by exact (sa_cons (by exact se_int) (sa_cons (by exact se_tup (by exact (sa_cons (by exact se_tup (by exact (sa_cons (by exact se_int) (sa_cons (by exact se_int) (sa_cons (by exact se_tup (by exact (sa_cons (by exact se_int) (sa_cons (by exact se_int) sa_nil)))) sa_nil))))) (sa_cons (by exact se_tup (by exact (sa_cons (by exact se_int) (sa_cons (by exact se_int) (sa_cons (by exact se_tup (by exact (sa_cons (by exact se_int) (sa_cons (by exact se_int) sa_nil)))) sa_nil))))) sa_nil)))) sa_nil)))) sa_nil)))) sa_nil))))) (by exact (ss_cons (by exact ss_expr (by exact (se_bm PySem.F.plainAttrs_list PySem.F.slot_list_append PySem.F.type_list_append sm_append (by exact sv_l 1) (by exact (sa_cons (by exact se_tup (by exact (sa_cons (by exact se_non) (sa_cons (by exact se_tup (by exact (sa_cons (by exact se_int) (sa_cons (by exact se_tup (by exact (sa_cons (by exact se_tup (by exact (sa_cons (by exact se_int) (sa_cons (by exact se_int) (sa_cons (by exact se_tup (by exact (sa_cons (by exact se_int) (sa_cons (by exact se_int) sa_nil)))) sa_nil))))) (sa_cons (by exact se_tup (by exact (sa_cons (by exact se_int) (sa_cons (by exact se_int) (sa_cons (by exact se_tup (by exact (sa_cons (by exact se_int) (sa_cons (by exact se_int) sa_nil)))) sa_nil))))) (sa_cons (by exact se_tup (by exact (sa_cons (by exact se_int) (sa_cons (by exact se_int) (sa_cons (by exact se_tup (by exact (sa_cons (by exact se_int) (sa_cons (by exact se_int) sa_nil)))) sa_nil))))) (sa_cons (by exact se_tup (by exact (sa_cons (by exact se_int) (sa_cons (by exact se_int) (sa_cons (by exact se_tup (by exact (sa_cons (by exact se_int) (sa_cons (by exact se_int) sa_nil)))) sa_nil))))) sa_nil)))))) sa_nil)))) sa_nil)))) sa_nil))))) (by exact (ss_cons (by exact ss_set (i := 1) sc_law.nd rfl (Or.inl rfl) (by exact se_op so_add (by exact sv_l 1) (by exact se_lst (by exact (sa_cons (by exact se_tup (by exact (sa_cons (by exact se_int) (sa_cons (by exact se_tup (by exact (sa_cons (by exact se_int) (sa_cons (by exact se_tup (by exact (sa_cons (by exact se_tup (by exact (sa_cons (by exact se_int) (sa_cons (by exact se_int) (sa_cons (by exact se_tup (by exact (sa_cons (by exact se_int) (sa_cons (by exact se_int) sa_nil)))) sa_nil))))) (sa_cons (by exact se_tup (by exact (sa_cons (by exact se_int) (sa_cons (by exact se_int) (sa_cons (by exact se_tup (by exact (sa_cons (by exact se_int) (sa_cons (by exact se_int) sa_nil)))) sa_nil))))) sa_nil)))) sa_nil)))) sa_nil)))) (sa_cons (by exact se_tup (by exact (sa_cons (by exact se_int) (sa_cons (by exact se_tup (by exact (sa_cons (by exact se_int) (sa_cons (by exact se_tup (by exact (sa_cons (by exact se_tup (by exact (sa_cons (by exact se_int) (sa_cons (by exact se_int) (sa_cons (by exact se_tup (by exact (sa_cons (by exact se_int) (sa_cons (by exact se_int) sa_nil)))) sa_nil))))) (sa_cons (by exact se_tup (by exact (sa_cons (by exact se_int) (sa_cons (by exact se_int) (sa_cons (by exact se_tup (by exact (sa_cons (by exact se_int) (sa_cons (by exact se_int) sa_nil)))) sa_nil))))) sa_nil)))) sa_nil)))) sa_nil)))) sa_nil)))))) (by exact (ss_cons (by exact ss_if (by exact st_cmp (by exact so_ne hr.units) (by exact se_comp (own := [("_law_due", 4), ("_law_table_here", 5)]) rfl sc_law.nd (by exact (si_seq (by exact sv_l 1))) (blkOk_by (N := ["_law_script", "_law_some", "_law_many", "_law_lines", "_law_due", "_law_table_here", "_law_k"]) (sc := defScope s_law) (own := [("_law_due", 4), ("_law_table_here", 5)]) (by decide +kernel)) (fun _ _ _ _ _ => (by exact (sg_or2 (sg_tup rfl (sgs_cons (by exact (sg_name (ws := [4, 5]) (i := 4) sc_law.nd rfl (Or.inl rfl) (by decide))) (sgs_cons (by exact (sg_name (ws := [4, 5]) (i := 5) sc_law.nd rfl (Or.inl rfl) (by decide))) sgs_nil))) (sg_unl rfl (sgs_cons (by exact (sg_name (ws := [4, 5]) (i := 4) sc_law.nd rfl (Or.inl rfl) (by decide))) (sgs_cons (by exact (sg_name (ws := [4, 5]) (i := 5) sc_law.nd rfl (Or.inl rfl) (by decide))) sgs_nil)))))) (fun _ _ _ _ _ => sts_nil) (fun _ _ _ _ _ => (by exact se_call (ps := ["policy"]) (by exact ok_forgets T) (by exact hr.mono (by decide)) (by exact hgd) (by rfl) (by exact T.m_forgets) (by exact T.F_forgets.kp) (by exact T.b_forgets) (by exact (sa_cons (by exact sv_l 5) sa_nil))))) (by exact se_comp (own := [("_law_due", 4), ("_law_table_here", 5)]) rfl sc_law.nd (by exact (si_seq (by exact sv_l 1))) (blkOk_by (N := ["_law_script", "_law_some", "_law_many", "_law_lines", "_law_due", "_law_table_here", "_law_k"]) (sc := defScope s_law) (own := [("_law_due", 4), ("_law_table_here", 5)]) (by decide +kernel)) (fun _ _ _ _ _ => (by exact (sg_or2 (sg_tup rfl (sgs_cons (by exact (sg_name (ws := [4, 5]) (i := 4) sc_law.nd rfl (Or.inl rfl) (by decide))) (sgs_cons (by exact (sg_name (ws := [4, 5]) (i := 5) sc_law.nd rfl (Or.inl rfl) (by decide))) sgs_nil))) (sg_unl rfl (sgs_cons (by exact (sg_name (ws := [4, 5]) (i := 4) sc_law.nd rfl (Or.inl rfl) (by decide))) (sgs_cons (by exact (sg_name (ws := [4, 5]) (i := 5) sc_law.nd rfl (Or.inl rfl) (by decide))) sgs_nil)))))) (fun _ _ _ _ _ => sts_nil) (fun _ _ _ _ _ => (by exact sv_l 4))) (nomark _)) (by exact (ss_one (by exact ss_ret (by exact se_bl)))) (by exact ss_nil)) (by exact (ss_one (by exact ss_ret (by exact se_callB (sc_all rfl) (by rfl) (by exact T.n_all) (by decide +kernel) (by exact (sa_cons (by exact se_comp (own := [("_law_k", 6)]) rfl sc_law.nd (by exact (si_range1 rfl (by exact T.n_range) (by exact se_callB (sc_max rfl) (by rfl) (by exact T.n_max) (by decide +kernel) (by exact (sa_cons (by exact se_int) (sa_cons (by exact se_callB (sc_min rfl) (by rfl) (by exact T.n_min) (by decide +kernel) (by exact (sa_cons (by exact se_callB sc_lenE (by rfl) (by exact T.n_len) (by decide +kernel) (by exact (sa_cons (by exact sv_c 0) sa_nil))) (sa_cons (by exact se_int) sa_nil)))) sa_nil)))))) (blkOk_by (N := ["_law_script", "_law_some", "_law_many", "_law_lines", "_law_due", "_law_table_here", "_law_k"]) (sc := defScope s_law) (own := [("_law_k", 6)]) (by decide +kernel)) (fun _ _ _ _ _ => (by exact (sg_name (ws := [6]) (i := 6) sc_law.nd rfl (Or.inl rfl) (by decide)))) (fun _ _ _ _ _ => sts_nil) (fun _ _ _ _ _ => (by exact se_call (ps := ["_law_pool_here"]) (by exact ok__law_right T) (by exact hr.mono (by decide)) (by exact hgd) (by rfl) (by exact T.m__law_right) (by exact T.F__law_right.kp) (by exact T.b__law_right) (by exact (sa_cons (by exact se_call (ps := ["_law_figure"]) (by exact ok__law_pool T) (by exact hr.mono (by decide)) (by exact hgd) (by rfl) (by exact T.m__law_pool) (by exact T.F__law_pool.kp) (by exact T.b__law_pool) (by exact (sa_cons (by exact se_call (ps := ["_law_script", "_law_k"]) (by exact ok__law_cell T) (by exact hr.mono (by decide)) (by exact hgd) (by rfl) (by exact T.m__law_cell) (by exact T.F__law_cell.kp) (by exact T.b__law_cell) (by exact (sa_cons (by exact sv_f 0) (sa_cons (by exact sv_l 6) sa_nil)))) sa_nil))) sa_nil))))) sa_nil)))))))))))))))))))))
end
theorem all_mk {K : Frg} {h : Heap} {mg : Str → Option Value} {fa : Addr} {C_Memory : Addr} {f_Memory_is_endless : Addr} {oc_Memory_is_endless kV_Memory_is_endless dc_Memory_is_endless pm_Memory_is_endless cd_Memory_is_endless ct_Memory_is_endless : Value} {od_Memory_is_endless an_Memory_is_endless : Option Addr} {sl_Memory_is_endless : Array (Option Value)} {f_Memory_longest : Addr} {oc_Memory_longest kV_Memory_longest dc_Memory_longest pm_Memory_longest cd_Memory_longest ct_Memory_longest : Value} {od_Memory_longest an_Memory_longest : Option Addr} {sl_Memory_longest : Array (Option Value)} {f_Memory_rank_all : Addr} {oc_Memory_rank_all kV_Memory_rank_all dc_Memory_rank_all pm_Memory_rank_all cd_Memory_rank_all ct_Memory_rank_all : Value} {od_Memory_rank_all an_Memory_rank_all : Option Addr} {sl_Memory_rank_all : Array (Option Value)} {f_put_at : Addr} {oc_put_at kV_put_at dc_put_at pm_put_at cd_put_at ct_put_at : Value} {od_put_at an_put_at : Option Addr} {sl_put_at : Array (Option Value)} {f_fresh_moves : Addr} {oc_fresh_moves kV_fresh_moves dc_fresh_moves pm_fresh_moves cd_fresh_moves ct_fresh_moves : Value} {od_fresh_moves an_fresh_moves : Option Addr} {sl_fresh_moves : Array (Option Value)} {f_has_old : Addr} {oc_has_old kV_has_old dc_has_old pm_has_old cd_has_old ct_has_old : Value} {od_has_old an_has_old : Option Addr} {sl_has_old : Array (Option Value)} {f_old_marks : Addr} {oc_old_marks kV_old_marks dc_old_marks pm_old_marks cd_old_marks ct_old_marks : Value} {od_old_marks an_old_marks : Option Addr} {sl_old_marks : Array (Option Value)} {f_any_moves : Addr} {oc_any_moves kV_any_moves dc_any_moves pm_any_moves cd_any_moves ct_any_moves : Value} {od_any_moves an_any_moves : Option Addr} {sl_any_moves : Array (Option Value)} {f_filled_stages : Addr} {oc_filled_stages kV_filled_stages dc_filled_stages pm_filled_stages cd_filled_stages ct_filled_stages : Value} {od_filled_stages an_filled_stages : Option Addr} {sl_filled_stages : Array (Option Value)} {f_Memory_init : Addr} {oc_Memory_init kV_Memory_init dc_Memory_init pm_Memory_init cd_Memory_init ct_Memory_init : Value} {od_Memory_init an_Memory_init : Option Addr} {sl_Memory_init : Array (Option Value)} {f_is_integer : Addr} {oc_is_integer kV_is_integer dc_is_integer pm_is_integer cd_is_integer ct_is_integer : Value} {od_is_integer an_is_integer : Option Addr} {sl_is_integer : Array (Option Value)} {f_is_between : Addr} {oc_is_between kV_is_between dc_is_between pm_is_between cd_is_between ct_is_between : Value} {od_is_between an_is_between : Option Addr} {sl_is_between : Array (Option Value)} {f_is_row : Addr} {oc_is_row kV_is_row dc_is_row pm_is_row cd_is_row ct_is_row : Value} {od_is_row an_is_row : Option Addr} {sl_is_row : Array (Option Value)} {f_is_policy : Addr} {oc_is_policy kV_is_policy dc_is_policy pm_is_policy cd_is_policy ct_is_policy : Value} {od_is_policy an_is_policy : Option Addr} {sl_is_policy : Array (Option Value)} {f_check_policy : Addr} {oc_check_policy kV_check_policy dc_check_policy pm_check_policy cd_check_policy ct_check_policy : Value} {od_check_policy an_check_policy : Option Addr} {sl_check_policy : Array (Option Value)} {f_forgets : Addr} {oc_forgets kV_forgets dc_forgets pm_forgets cd_forgets ct_forgets : Value} {od_forgets an_forgets : Option Addr} {sl_forgets : Array (Option Value)} {f__law_later : Addr} {oc__law_later kV__law_later dc__law_later pm__law_later cd__law_later ct__law_later : Value} {od__law_later an__law_later : Option Addr} {sl__law_later : Array (Option Value)} {f__law_begun : Addr} {oc__law_begun kV__law_begun dc__law_begun pm__law_begun cd__law_begun ct__law_begun : Value} {od__law_begun an__law_begun : Option Addr} {sl__law_begun : Array (Option Value)} {f__law_starts : Addr} {oc__law_starts kV__law_starts dc__law_starts pm__law_starts cd__law_starts ct__law_starts : Value} {od__law_starts an__law_starts : Option Addr} {sl__law_starts : Array (Option Value)} {f__law_forgotten : Addr} {oc__law_forgotten kV__law_forgotten dc__law_forgotten pm__law_forgotten cd__law_forgotten ct__law_forgotten : Value} {od__law_forgotten an__law_forgotten : Option Addr} {sl__law_forgotten : Array (Option Value)} {f__law_asked : Addr} {oc__law_asked kV__law_asked dc__law_asked pm__law_asked cd__law_asked ct__law_asked : Value} {od__law_asked an__law_asked : Option Addr} {sl__law_asked : Array (Option Value)} {f__law_draw : Addr} {oc__law_draw kV__law_draw dc__law_draw pm__law_draw cd__law_draw ct__law_draw : Value} {od__law_draw an__law_draw : Option Addr} {sl__law_draw : Array (Option Value)} {f__law_policy : Addr} {oc__law_policy kV__law_policy dc__law_policy pm__law_policy cd__law_policy ct__law_policy : Value} {od__law_policy an__law_policy : Option Addr} {sl__law_policy : Array (Option Value)} {f__law_queue : Addr} {oc__law_queue kV__law_queue dc__law_queue pm__law_queue cd__law_queue ct__law_queue : Value} {od__law_queue an__law_queue : Option Addr} {sl__law_queue : Array (Option Value)} {f__law_recent : Addr} {oc__law_recent kV__law_recent dc__law_recent pm__law_recent cd__law_recent ct__law_recent : Value} {od__law_recent an__law_recent : Option Addr} {sl__law_recent : Array (Option Value)} {f__law_table : Addr} {oc__law_table kV__law_table dc__law_table pm__law_table cd__law_table ct__law_table : Value} {od__law_table an__law_table : Option Addr} {sl__law_table : Array (Option Value)} {f__law_right : Addr} {oc__law_right kV__law_right dc__law_right pm__law_right cd__law_right ct__law_right : Value} {od__law_right an__law_right : Option Addr} {sl__law_right : Array (Option Value)} {f__law_pool : Addr} {oc__law_pool kV__law_pool dc__law_pool pm__law_pool cd__law_pool ct__law_pool : Value} {od__law_pool an__law_pool : Option Addr} {sl__law_pool : Array (Option Value)} {f__law_cell : Addr} {oc__law_cell kV__law_cell dc__law_cell pm__law_cell cd__law_cell ct__law_cell : Value} {od__law_cell an__law_cell : Option Addr} {sl__law_cell : Array (Option Value)} {f__law_seldom : Addr} {oc__law_seldom kV__law_seldom dc__law_seldom pm__law_seldom cd__law_seldom ct__law_seldom : Value} {od__law_seldom an__law_seldom : Option Addr} {sl__law_seldom : Array (Option Value)} {f__law_blocks : Addr} {oc__law_blocks kV__law_blocks dc__law_blocks pm__law_blocks cd__law_blocks ct__law_blocks : Value} {od__law_blocks an__law_blocks : Option Addr} {sl__law_blocks : Array (Option Value)} {f__law_lasting : Addr} {oc__law_lasting kV__law_lasting dc__law_lasting pm__law_lasting cd__law_lasting ct__law_lasting : Value} {od__law_lasting an__law_lasting : Option Addr} {sl__law_lasting : Array (Option Value)} {f_law : Addr} {oc_law kV_law dc_law pm_law cd_law ct_law : Value} {od_law an_law : Option Addr} {sl_law : Array (Option Value)} {gt_MOST_LINES : Tok} {gt_MOST_STATES : Tok} (X : K.In h) (G : h.Ns mainGlobals mg) (hfa : mg "law" = some (.ref fa))
    (aC_Memory : PySem.W.nsIn K mainGlobals "Memory" = some (some (.ref C_Memory)))
    (pg_Memory : PySem.W.plainGet K C_Memory Str.empty = true)
    (hd_Memory : PySem.W.hasDictIn K C_Memory = true)
    (po_Memory : PySem.W.plainOver K C_Memory = true)
    (sa_Memory : PySem.W.findIn K (.ref C_Memory) "__setattr__" = some (some (.builtin "object.__setattr__")))
    (a_Memory_is_endless : PySem.W.findIn K (.ref C_Memory) "is_endless" = some (some (.ref f_Memory_is_endless)))
    (i_Memory_is_endless : PySem.W.isFn K (.ref f_Memory_is_endless) = true)
    (l_Memory_is_endless : K.lookup f_Memory_is_endless = some ⟨oc_Memory_is_endless, od_Memory_is_endless, .func (PySem.W.fnOf "is_endless" "Memory.is_endless" (defArgs s_Memory_is_endless) (defBody s_Memory_is_endless) (defScope s_Memory_is_endless) .none kV_Memory_is_endless dc_Memory_is_endless pm_Memory_is_endless an_Memory_is_endless cd_Memory_is_endless ct_Memory_is_endless), sl_Memory_is_endless⟩)
    (c_Memory_is_endless : PySem.W.codeIn K cd_Memory_is_endless "Memory.is_endless" = true)
    (k_Memory_is_endless : PySem.W.keepIn K (.ref f_Memory_is_endless) = true)
    (a_Memory_longest : PySem.W.findIn K (.ref C_Memory) "longest" = some (some (.ref f_Memory_longest)))
    (i_Memory_longest : PySem.W.isFn K (.ref f_Memory_longest) = true)
    (l_Memory_longest : K.lookup f_Memory_longest = some ⟨oc_Memory_longest, od_Memory_longest, .func (PySem.W.fnOf "longest" "Memory.longest" (defArgs s_Memory_longest) (defBody s_Memory_longest) (defScope s_Memory_longest) .none kV_Memory_longest dc_Memory_longest pm_Memory_longest an_Memory_longest cd_Memory_longest ct_Memory_longest), sl_Memory_longest⟩)
    (c_Memory_longest : PySem.W.codeIn K cd_Memory_longest "Memory.longest" = true)
    (k_Memory_longest : PySem.W.keepIn K (.ref f_Memory_longest) = true)
    (a_Memory_rank_all : PySem.W.findIn K (.ref C_Memory) "rank_all" = some (some (.ref f_Memory_rank_all)))
    (i_Memory_rank_all : PySem.W.isFn K (.ref f_Memory_rank_all) = true)
    (l_Memory_rank_all : K.lookup f_Memory_rank_all = some ⟨oc_Memory_rank_all, od_Memory_rank_all, .func (PySem.W.fnOf "rank_all" "Memory.rank_all" (defArgs s_Memory_rank_all) (defBody s_Memory_rank_all) (defScope s_Memory_rank_all) .none kV_Memory_rank_all dc_Memory_rank_all pm_Memory_rank_all an_Memory_rank_all cd_Memory_rank_all ct_Memory_rank_all), sl_Memory_rank_all⟩)
    (c_Memory_rank_all : PySem.W.codeIn K cd_Memory_rank_all "Memory.rank_all" = true)
    (k_Memory_rank_all : PySem.W.keepIn K (.ref f_Memory_rank_all) = true)
    (a_put_at : PySem.W.nsIn K mainGlobals "put_at" = some (some (.ref f_put_at)))
    (l_put_at : K.lookup f_put_at = some ⟨oc_put_at, od_put_at, .func (PySem.W.fnOf "put_at" "put_at" (defArgs s_put_at) (defBody s_put_at) (defScope s_put_at) .none kV_put_at dc_put_at pm_put_at an_put_at cd_put_at ct_put_at), sl_put_at⟩)
    (c_put_at : PySem.W.codeIn K cd_put_at "put_at" = true)
    (k_put_at : PySem.W.keepIn K (.ref f_put_at) = true)
    (a_fresh_moves : PySem.W.nsIn K mainGlobals "fresh_moves" = some (some (.ref f_fresh_moves)))
    (l_fresh_moves : K.lookup f_fresh_moves = some ⟨oc_fresh_moves, od_fresh_moves, .func (PySem.W.fnOf "fresh_moves" "fresh_moves" (defArgs s_fresh_moves) (defBody s_fresh_moves) (defScope s_fresh_moves) .none kV_fresh_moves dc_fresh_moves pm_fresh_moves an_fresh_moves cd_fresh_moves ct_fresh_moves), sl_fresh_moves⟩)
    (c_fresh_moves : PySem.W.codeIn K cd_fresh_moves "fresh_moves" = true)
    (k_fresh_moves : PySem.W.keepIn K (.ref f_fresh_moves) = true)
    (a_has_old : PySem.W.nsIn K mainGlobals "has_old" = some (some (.ref f_has_old)))
    (l_has_old : K.lookup f_has_old = some ⟨oc_has_old, od_has_old, .func (PySem.W.fnOf "has_old" "has_old" (defArgs s_has_old) (defBody s_has_old) (defScope s_has_old) .none kV_has_old dc_has_old pm_has_old an_has_old cd_has_old ct_has_old), sl_has_old⟩)
    (c_has_old : PySem.W.codeIn K cd_has_old "has_old" = true)
    (k_has_old : PySem.W.keepIn K (.ref f_has_old) = true)
    (a_old_marks : PySem.W.nsIn K mainGlobals "old_marks" = some (some (.ref f_old_marks)))
    (l_old_marks : K.lookup f_old_marks = some ⟨oc_old_marks, od_old_marks, .func (PySem.W.fnOf "old_marks" "old_marks" (defArgs s_old_marks) (defBody s_old_marks) (defScope s_old_marks) .none kV_old_marks dc_old_marks pm_old_marks an_old_marks cd_old_marks ct_old_marks), sl_old_marks⟩)
    (c_old_marks : PySem.W.codeIn K cd_old_marks "old_marks" = true)
    (k_old_marks : PySem.W.keepIn K (.ref f_old_marks) = true)
    (a_any_moves : PySem.W.nsIn K mainGlobals "any_moves" = some (some (.ref f_any_moves)))
    (l_any_moves : K.lookup f_any_moves = some ⟨oc_any_moves, od_any_moves, .func (PySem.W.fnOf "any_moves" "any_moves" (defArgs s_any_moves) (defBody s_any_moves) (defScope s_any_moves) .none kV_any_moves dc_any_moves pm_any_moves an_any_moves cd_any_moves ct_any_moves), sl_any_moves⟩)
    (c_any_moves : PySem.W.codeIn K cd_any_moves "any_moves" = true)
    (k_any_moves : PySem.W.keepIn K (.ref f_any_moves) = true)
    (a_filled_stages : PySem.W.nsIn K mainGlobals "filled_stages" = some (some (.ref f_filled_stages)))
    (l_filled_stages : K.lookup f_filled_stages = some ⟨oc_filled_stages, od_filled_stages, .func (PySem.W.fnOf "filled_stages" "filled_stages" (defArgs s_filled_stages) (defBody s_filled_stages) (defScope s_filled_stages) .none kV_filled_stages dc_filled_stages pm_filled_stages an_filled_stages cd_filled_stages ct_filled_stages), sl_filled_stages⟩)
    (c_filled_stages : PySem.W.codeIn K cd_filled_stages "filled_stages" = true)
    (k_filled_stages : PySem.W.keepIn K (.ref f_filled_stages) = true)
    (a_Memory_init : PySem.W.findIn K (.ref C_Memory) "__init__" = some (some (.ref f_Memory_init)))
    (i_Memory_init : PySem.W.isFn K (.ref f_Memory_init) = true)
    (mk_Memory : PySem.W.makesIn K C_Memory = true)
    (kc_Memory : PySem.W.keepIn K (.ref C_Memory) = true)
    (l_Memory_init : K.lookup f_Memory_init = some ⟨oc_Memory_init, od_Memory_init, .func (PySem.W.fnOf "__init__" "Memory.__init__" (defArgs s_Memory_init) (defBody s_Memory_init) (defScope s_Memory_init) .none kV_Memory_init dc_Memory_init pm_Memory_init an_Memory_init cd_Memory_init ct_Memory_init), sl_Memory_init⟩)
    (c_Memory_init : PySem.W.codeIn K cd_Memory_init "Memory.__init__" = true)
    (k_Memory_init : PySem.W.keepIn K (.ref f_Memory_init) = true)
    (a_is_integer : PySem.W.nsIn K mainGlobals "is_integer" = some (some (.ref f_is_integer)))
    (l_is_integer : K.lookup f_is_integer = some ⟨oc_is_integer, od_is_integer, .func (PySem.W.fnOf "is_integer" "is_integer" (defArgs s_is_integer) (defBody s_is_integer) (defScope s_is_integer) .none kV_is_integer dc_is_integer pm_is_integer an_is_integer cd_is_integer ct_is_integer), sl_is_integer⟩)
    (c_is_integer : PySem.W.codeIn K cd_is_integer "is_integer" = true)
    (k_is_integer : PySem.W.keepIn K (.ref f_is_integer) = true)
    (a_is_between : PySem.W.nsIn K mainGlobals "is_between" = some (some (.ref f_is_between)))
    (l_is_between : K.lookup f_is_between = some ⟨oc_is_between, od_is_between, .func (PySem.W.fnOf "is_between" "is_between" (defArgs s_is_between) (defBody s_is_between) (defScope s_is_between) .none kV_is_between dc_is_between pm_is_between an_is_between cd_is_between ct_is_between), sl_is_between⟩)
    (c_is_between : PySem.W.codeIn K cd_is_between "is_between" = true)
    (k_is_between : PySem.W.keepIn K (.ref f_is_between) = true)
    (a_is_row : PySem.W.nsIn K mainGlobals "is_row" = some (some (.ref f_is_row)))
    (l_is_row : K.lookup f_is_row = some ⟨oc_is_row, od_is_row, .func (PySem.W.fnOf "is_row" "is_row" (defArgs s_is_row) (defBody s_is_row) (defScope s_is_row) .none kV_is_row dc_is_row pm_is_row an_is_row cd_is_row ct_is_row), sl_is_row⟩)
    (c_is_row : PySem.W.codeIn K cd_is_row "is_row" = true)
    (k_is_row : PySem.W.keepIn K (.ref f_is_row) = true)
    (a_is_policy : PySem.W.nsIn K mainGlobals "is_policy" = some (some (.ref f_is_policy)))
    (l_is_policy : K.lookup f_is_policy = some ⟨oc_is_policy, od_is_policy, .func (PySem.W.fnOf "is_policy" "is_policy" (defArgs s_is_policy) (defBody s_is_policy) (defScope s_is_policy) .none kV_is_policy dc_is_policy pm_is_policy an_is_policy cd_is_policy ct_is_policy), sl_is_policy⟩)
    (c_is_policy : PySem.W.codeIn K cd_is_policy "is_policy" = true)
    (k_is_policy : PySem.W.keepIn K (.ref f_is_policy) = true)
    (a_check_policy : PySem.W.nsIn K mainGlobals "check_policy" = some (some (.ref f_check_policy)))
    (l_check_policy : K.lookup f_check_policy = some ⟨oc_check_policy, od_check_policy, .func (PySem.W.fnOf "check_policy" "check_policy" (defArgs s_check_policy) (defBody s_check_policy) (defScope s_check_policy) .none kV_check_policy dc_check_policy pm_check_policy an_check_policy cd_check_policy ct_check_policy), sl_check_policy⟩)
    (c_check_policy : PySem.W.codeIn K cd_check_policy "check_policy" = true)
    (k_check_policy : PySem.W.keepIn K (.ref f_check_policy) = true)
    (a_forgets : PySem.W.nsIn K mainGlobals "forgets" = some (some (.ref f_forgets)))
    (l_forgets : K.lookup f_forgets = some ⟨oc_forgets, od_forgets, .func (PySem.W.fnOf "forgets" "forgets" (defArgs s_forgets) (defBody s_forgets) (defScope s_forgets) .none kV_forgets dc_forgets pm_forgets an_forgets cd_forgets ct_forgets), sl_forgets⟩)
    (c_forgets : PySem.W.codeIn K cd_forgets "forgets" = true)
    (k_forgets : PySem.W.keepIn K (.ref f_forgets) = true)
    (a__law_later : PySem.W.nsIn K mainGlobals "_law_later" = some (some (.ref f__law_later)))
    (l__law_later : K.lookup f__law_later = some ⟨oc__law_later, od__law_later, .func (PySem.W.fnOf "_law_later" "_law_later" (defArgs s__law_later) (defBody s__law_later) (defScope s__law_later) .none kV__law_later dc__law_later pm__law_later an__law_later cd__law_later ct__law_later), sl__law_later⟩)
    (c__law_later : PySem.W.codeIn K cd__law_later "_law_later" = true)
    (k__law_later : PySem.W.keepIn K (.ref f__law_later) = true)
    (a__law_begun : PySem.W.nsIn K mainGlobals "_law_begun" = some (some (.ref f__law_begun)))
    (l__law_begun : K.lookup f__law_begun = some ⟨oc__law_begun, od__law_begun, .func (PySem.W.fnOf "_law_begun" "_law_begun" (defArgs s__law_begun) (defBody s__law_begun) (defScope s__law_begun) .none kV__law_begun dc__law_begun pm__law_begun an__law_begun cd__law_begun ct__law_begun), sl__law_begun⟩)
    (c__law_begun : PySem.W.codeIn K cd__law_begun "_law_begun" = true)
    (k__law_begun : PySem.W.keepIn K (.ref f__law_begun) = true)
    (a__law_starts : PySem.W.nsIn K mainGlobals "_law_starts" = some (some (.ref f__law_starts)))
    (l__law_starts : K.lookup f__law_starts = some ⟨oc__law_starts, od__law_starts, .func (PySem.W.fnOf "_law_starts" "_law_starts" (defArgs s__law_starts) (defBody s__law_starts) (defScope s__law_starts) .none kV__law_starts dc__law_starts pm__law_starts an__law_starts cd__law_starts ct__law_starts), sl__law_starts⟩)
    (c__law_starts : PySem.W.codeIn K cd__law_starts "_law_starts" = true)
    (k__law_starts : PySem.W.keepIn K (.ref f__law_starts) = true)
    (a__law_forgotten : PySem.W.nsIn K mainGlobals "_law_forgotten" = some (some (.ref f__law_forgotten)))
    (l__law_forgotten : K.lookup f__law_forgotten = some ⟨oc__law_forgotten, od__law_forgotten, .func (PySem.W.fnOf "_law_forgotten" "_law_forgotten" (defArgs s__law_forgotten) (defBody s__law_forgotten) (defScope s__law_forgotten) .none kV__law_forgotten dc__law_forgotten pm__law_forgotten an__law_forgotten cd__law_forgotten ct__law_forgotten), sl__law_forgotten⟩)
    (c__law_forgotten : PySem.W.codeIn K cd__law_forgotten "_law_forgotten" = true)
    (k__law_forgotten : PySem.W.keepIn K (.ref f__law_forgotten) = true)
    (a__law_asked : PySem.W.nsIn K mainGlobals "_law_asked" = some (some (.ref f__law_asked)))
    (l__law_asked : K.lookup f__law_asked = some ⟨oc__law_asked, od__law_asked, .func (PySem.W.fnOf "_law_asked" "_law_asked" (defArgs s__law_asked) (defBody s__law_asked) (defScope s__law_asked) .none kV__law_asked dc__law_asked pm__law_asked an__law_asked cd__law_asked ct__law_asked), sl__law_asked⟩)
    (c__law_asked : PySem.W.codeIn K cd__law_asked "_law_asked" = true)
    (k__law_asked : PySem.W.keepIn K (.ref f__law_asked) = true)
    (a__law_draw : PySem.W.nsIn K mainGlobals "_law_draw" = some (some (.ref f__law_draw)))
    (l__law_draw : K.lookup f__law_draw = some ⟨oc__law_draw, od__law_draw, .func (PySem.W.fnOf "_law_draw" "_law_draw" (defArgs s__law_draw) (defBody s__law_draw) (defScope s__law_draw) .none kV__law_draw dc__law_draw pm__law_draw an__law_draw cd__law_draw ct__law_draw), sl__law_draw⟩)
    (c__law_draw : PySem.W.codeIn K cd__law_draw "_law_draw" = true)
    (k__law_draw : PySem.W.keepIn K (.ref f__law_draw) = true)
    (a__law_policy : PySem.W.nsIn K mainGlobals "_law_policy" = some (some (.ref f__law_policy)))
    (l__law_policy : K.lookup f__law_policy = some ⟨oc__law_policy, od__law_policy, .func (PySem.W.fnOf "_law_policy" "_law_policy" (defArgs s__law_policy) (defBody s__law_policy) (defScope s__law_policy) .none kV__law_policy dc__law_policy pm__law_policy an__law_policy cd__law_policy ct__law_policy), sl__law_policy⟩)
    (c__law_policy : PySem.W.codeIn K cd__law_policy "_law_policy" = true)
    (k__law_policy : PySem.W.keepIn K (.ref f__law_policy) = true)
    (a__law_queue : PySem.W.nsIn K mainGlobals "_law_queue" = some (some (.ref f__law_queue)))
    (l__law_queue : K.lookup f__law_queue = some ⟨oc__law_queue, od__law_queue, .func (PySem.W.fnOf "_law_queue" "_law_queue" (defArgs s__law_queue) (defBody s__law_queue) (defScope s__law_queue) .none kV__law_queue dc__law_queue pm__law_queue an__law_queue cd__law_queue ct__law_queue), sl__law_queue⟩)
    (c__law_queue : PySem.W.codeIn K cd__law_queue "_law_queue" = true)
    (k__law_queue : PySem.W.keepIn K (.ref f__law_queue) = true)
    (a__law_recent : PySem.W.nsIn K mainGlobals "_law_recent" = some (some (.ref f__law_recent)))
    (l__law_recent : K.lookup f__law_recent = some ⟨oc__law_recent, od__law_recent, .func (PySem.W.fnOf "_law_recent" "_law_recent" (defArgs s__law_recent) (defBody s__law_recent) (defScope s__law_recent) .none kV__law_recent dc__law_recent pm__law_recent an__law_recent cd__law_recent ct__law_recent), sl__law_recent⟩)
    (c__law_recent : PySem.W.codeIn K cd__law_recent "_law_recent" = true)
    (k__law_recent : PySem.W.keepIn K (.ref f__law_recent) = true)
    (a__law_table : PySem.W.nsIn K mainGlobals "_law_table" = some (some (.ref f__law_table)))
    (l__law_table : K.lookup f__law_table = some ⟨oc__law_table, od__law_table, .func (PySem.W.fnOf "_law_table" "_law_table" (defArgs s__law_table) (defBody s__law_table) (defScope s__law_table) .none kV__law_table dc__law_table pm__law_table an__law_table cd__law_table ct__law_table), sl__law_table⟩)
    (c__law_table : PySem.W.codeIn K cd__law_table "_law_table" = true)
    (k__law_table : PySem.W.keepIn K (.ref f__law_table) = true)
    (a__law_right : PySem.W.nsIn K mainGlobals "_law_right" = some (some (.ref f__law_right)))
    (l__law_right : K.lookup f__law_right = some ⟨oc__law_right, od__law_right, .func (PySem.W.fnOf "_law_right" "_law_right" (defArgs s__law_right) (defBody s__law_right) (defScope s__law_right) .none kV__law_right dc__law_right pm__law_right an__law_right cd__law_right ct__law_right), sl__law_right⟩)
    (c__law_right : PySem.W.codeIn K cd__law_right "_law_right" = true)
    (k__law_right : PySem.W.keepIn K (.ref f__law_right) = true)
    (a__law_pool : PySem.W.nsIn K mainGlobals "_law_pool" = some (some (.ref f__law_pool)))
    (l__law_pool : K.lookup f__law_pool = some ⟨oc__law_pool, od__law_pool, .func (PySem.W.fnOf "_law_pool" "_law_pool" (defArgs s__law_pool) (defBody s__law_pool) (defScope s__law_pool) .none kV__law_pool dc__law_pool pm__law_pool an__law_pool cd__law_pool ct__law_pool), sl__law_pool⟩)
    (c__law_pool : PySem.W.codeIn K cd__law_pool "_law_pool" = true)
    (k__law_pool : PySem.W.keepIn K (.ref f__law_pool) = true)
    (a__law_cell : PySem.W.nsIn K mainGlobals "_law_cell" = some (some (.ref f__law_cell)))
    (l__law_cell : K.lookup f__law_cell = some ⟨oc__law_cell, od__law_cell, .func (PySem.W.fnOf "_law_cell" "_law_cell" (defArgs s__law_cell) (defBody s__law_cell) (defScope s__law_cell) .none kV__law_cell dc__law_cell pm__law_cell an__law_cell cd__law_cell ct__law_cell), sl__law_cell⟩)
    (c__law_cell : PySem.W.codeIn K cd__law_cell "_law_cell" = true)
    (k__law_cell : PySem.W.keepIn K (.ref f__law_cell) = true)
    (a__law_seldom : PySem.W.nsIn K mainGlobals "_law_seldom" = some (some (.ref f__law_seldom)))
    (l__law_seldom : K.lookup f__law_seldom = some ⟨oc__law_seldom, od__law_seldom, .func (PySem.W.fnOf "_law_seldom" "_law_seldom" (defArgs s__law_seldom) (defBody s__law_seldom) (defScope s__law_seldom) .none kV__law_seldom dc__law_seldom pm__law_seldom an__law_seldom cd__law_seldom ct__law_seldom), sl__law_seldom⟩)
    (c__law_seldom : PySem.W.codeIn K cd__law_seldom "_law_seldom" = true)
    (k__law_seldom : PySem.W.keepIn K (.ref f__law_seldom) = true)
    (a__law_blocks : PySem.W.nsIn K mainGlobals "_law_blocks" = some (some (.ref f__law_blocks)))
    (l__law_blocks : K.lookup f__law_blocks = some ⟨oc__law_blocks, od__law_blocks, .func (PySem.W.fnOf "_law_blocks" "_law_blocks" (defArgs s__law_blocks) (defBody s__law_blocks) (defScope s__law_blocks) .none kV__law_blocks dc__law_blocks pm__law_blocks an__law_blocks cd__law_blocks ct__law_blocks), sl__law_blocks⟩)
    (c__law_blocks : PySem.W.codeIn K cd__law_blocks "_law_blocks" = true)
    (k__law_blocks : PySem.W.keepIn K (.ref f__law_blocks) = true)
    (a__law_lasting : PySem.W.nsIn K mainGlobals "_law_lasting" = some (some (.ref f__law_lasting)))
    (l__law_lasting : K.lookup f__law_lasting = some ⟨oc__law_lasting, od__law_lasting, .func (PySem.W.fnOf "_law_lasting" "_law_lasting" (defArgs s__law_lasting) (defBody s__law_lasting) (defScope s__law_lasting) .none kV__law_lasting dc__law_lasting pm__law_lasting an__law_lasting cd__law_lasting ct__law_lasting), sl__law_lasting⟩)
    (c__law_lasting : PySem.W.codeIn K cd__law_lasting "_law_lasting" = true)
    (k__law_lasting : PySem.W.keepIn K (.ref f__law_lasting) = true)
    (a_law : PySem.W.nsIn K mainGlobals "law" = some (some (.ref f_law)))
    (l_law : K.lookup f_law = some ⟨oc_law, od_law, .func (PySem.W.fnOf "law" "law" (defArgs s_law) (defBody s_law) (defScope s_law) .none kV_law dc_law pm_law an_law cd_law ct_law), sl_law⟩)
    (c_law : PySem.W.codeIn K cd_law "law" = true)
    (k_law : PySem.W.keepIn K (.ref f_law) = true)
    (na_Memory_edges : PySem.W.findIn K (.ref C_Memory) "edges" = some none)
    (na_Memory_ranks : PySem.W.findIn K (.ref C_Memory) "ranks" = some none)
    (na_Memory_stages : PySem.W.findIn K (.ref C_Memory) "stages" = some none)
    (na_Memory_starts : PySem.W.findIn K (.ref C_Memory) "starts" = some none)
    (z_abs : PySem.W.nsIn K mainGlobals "abs" = some none)
    (z_all : PySem.W.nsIn K mainGlobals "all" = some none)
    (z_bool : PySem.W.nsIn K mainGlobals "bool" = some none)
    (z_divmod : PySem.W.nsIn K mainGlobals "divmod" = some none)
    (z_int : PySem.W.nsIn K mainGlobals "int" = some none)
    (z_isinstance : PySem.W.nsIn K mainGlobals "isinstance" = some none)
    (z_len : PySem.W.nsIn K mainGlobals "len" = some none)
    (z_list : PySem.W.nsIn K mainGlobals "list" = some none)
    (z_max : PySem.W.nsIn K mainGlobals "max" = some none)
    (z_min : PySem.W.nsIn K mainGlobals "min" = some none)
    (z_range : PySem.W.nsIn K mainGlobals "range" = some none)
    (z_repr : PySem.W.nsIn K mainGlobals "repr" = some none)
    (z_tuple : PySem.W.nsIn K mainGlobals "tuple" = some none)
    (g_MOST_LINES : PySem.W.nsIn K mainGlobals "MOST_LINES" = some (some (.int 4 gt_MOST_LINES)))
    (g_MOST_STATES : PySem.W.nsIn K mainGlobals "MOST_STATES" = some (some (.int 64 gt_MOST_STATES))) :
    ∃ T : Top K mg, T.f_law = fa ∧ ∀ (s : Shared) (v : Value), BindsTo s T.d_law ⟨[v], []⟩ [("_law_script", v)] :=
  ⟨{ C_Memory := C_Memory,
     cl_Memory := ⟨pg_Memory, hd_Memory, po_Memory, sa_Memory⟩,
     mC_Memory := PySem.W.mg_of X G aC_Memory,
     f_Memory_is_endless := f_Memory_is_endless,
     d_Memory_is_endless := PySem.W.fnOf "is_endless" "Memory.is_endless" (defArgs s_Memory_is_endless) (defBody s_Memory_is_endless) (defScope s_Memory_is_endless) .none kV_Memory_is_endless dc_Memory_is_endless pm_Memory_is_endless an_Memory_is_endless cd_Memory_is_endless ct_Memory_is_endless,
     F_Memory_is_endless := fun_mk (st := s_Memory_is_endless) l_Memory_is_endless c_Memory_is_endless k_Memory_is_endless,
     b_Memory_is_endless := (fun_mk (st := s_Memory_is_endless) l_Memory_is_endless c_Memory_is_endless k_Memory_is_endless).binds (ps := ["self"]) fun _ _ _ _ _ _ us hl => match us, hl with | [_], _ => rfl,
     me_Memory_is_endless := ⟨a_Memory_is_endless, i_Memory_is_endless, k_Memory_is_endless⟩,
     f_Memory_longest := f_Memory_longest,
     d_Memory_longest := PySem.W.fnOf "longest" "Memory.longest" (defArgs s_Memory_longest) (defBody s_Memory_longest) (defScope s_Memory_longest) .none kV_Memory_longest dc_Memory_longest pm_Memory_longest an_Memory_longest cd_Memory_longest ct_Memory_longest,
     F_Memory_longest := fun_mk (st := s_Memory_longest) l_Memory_longest c_Memory_longest k_Memory_longest,
     b_Memory_longest := (fun_mk (st := s_Memory_longest) l_Memory_longest c_Memory_longest k_Memory_longest).binds (ps := ["self"]) fun _ _ _ _ _ _ us hl => match us, hl with | [_], _ => rfl,
     me_Memory_longest := ⟨a_Memory_longest, i_Memory_longest, k_Memory_longest⟩,
     f_Memory_rank_all := f_Memory_rank_all,
     d_Memory_rank_all := PySem.W.fnOf "rank_all" "Memory.rank_all" (defArgs s_Memory_rank_all) (defBody s_Memory_rank_all) (defScope s_Memory_rank_all) .none kV_Memory_rank_all dc_Memory_rank_all pm_Memory_rank_all an_Memory_rank_all cd_Memory_rank_all ct_Memory_rank_all,
     F_Memory_rank_all := fun_mk (st := s_Memory_rank_all) l_Memory_rank_all c_Memory_rank_all k_Memory_rank_all,
     b_Memory_rank_all := (fun_mk (st := s_Memory_rank_all) l_Memory_rank_all c_Memory_rank_all k_Memory_rank_all).binds (ps := ["self"]) fun _ _ _ _ _ _ us hl => match us, hl with | [_], _ => rfl,
     me_Memory_rank_all := ⟨a_Memory_rank_all, i_Memory_rank_all, k_Memory_rank_all⟩,
     f_put_at := f_put_at,
     d_put_at := PySem.W.fnOf "put_at" "put_at" (defArgs s_put_at) (defBody s_put_at) (defScope s_put_at) .none kV_put_at dc_put_at pm_put_at an_put_at cd_put_at ct_put_at,
     F_put_at := fun_mk (st := s_put_at) l_put_at c_put_at k_put_at,
     b_put_at := (fun_mk (st := s_put_at) l_put_at c_put_at k_put_at).binds (ps := ["row", "index", "value"]) fun _ _ _ _ _ _ us hl => match us, hl with | [_, _, _], _ => rfl,
     m_put_at := PySem.W.mg_of X G a_put_at,
     f_fresh_moves := f_fresh_moves,
     d_fresh_moves := PySem.W.fnOf "fresh_moves" "fresh_moves" (defArgs s_fresh_moves) (defBody s_fresh_moves) (defScope s_fresh_moves) .none kV_fresh_moves dc_fresh_moves pm_fresh_moves an_fresh_moves cd_fresh_moves ct_fresh_moves,
     F_fresh_moves := fun_mk (st := s_fresh_moves) l_fresh_moves c_fresh_moves k_fresh_moves,
     b_fresh_moves := (fun_mk (st := s_fresh_moves) l_fresh_moves c_fresh_moves k_fresh_moves).binds (ps := ["policy", "here"]) fun _ _ _ _ _ _ us hl => match us, hl with | [_, _], _ => rfl,
     m_fresh_moves := PySem.W.mg_of X G a_fresh_moves,
     f_has_old := f_has_old,
     d_has_old := PySem.W.fnOf "has_old" "has_old" (defArgs s_has_old) (defBody s_has_old) (defScope s_has_old) .none kV_has_old dc_has_old pm_has_old an_has_old cd_has_old ct_has_old,
     F_has_old := fun_mk (st := s_has_old) l_has_old c_has_old k_has_old,
     b_has_old := (fun_mk (st := s_has_old) l_has_old c_has_old k_has_old).binds (ps := ["here"]) fun _ _ _ _ _ _ us hl => match us, hl with | [_], _ => rfl,
     m_has_old := PySem.W.mg_of X G a_has_old,
     f_old_marks := f_old_marks,
     d_old_marks := PySem.W.fnOf "old_marks" "old_marks" (defArgs s_old_marks) (defBody s_old_marks) (defScope s_old_marks) .none kV_old_marks dc_old_marks pm_old_marks an_old_marks cd_old_marks ct_old_marks,
     F_old_marks := fun_mk (st := s_old_marks) l_old_marks c_old_marks k_old_marks,
     b_old_marks := (fun_mk (st := s_old_marks) l_old_marks c_old_marks k_old_marks).binds (ps := ["stage"]) fun _ _ _ _ _ _ us hl => match us, hl with | [_], _ => rfl,
     m_old_marks := PySem.W.mg_of X G a_old_marks,
     f_any_moves := f_any_moves,
     d_any_moves := PySem.W.fnOf "any_moves" "any_moves" (defArgs s_any_moves) (defBody s_any_moves) (defScope s_any_moves) .none kV_any_moves dc_any_moves pm_any_moves an_any_moves cd_any_moves ct_any_moves,
     F_any_moves := fun_mk (st := s_any_moves) l_any_moves c_any_moves k_any_moves,
     b_any_moves := (fun_mk (st := s_any_moves) l_any_moves c_any_moves k_any_moves).binds (ps := ["policy", "stage"]) fun _ _ _ _ _ _ us hl => match us, hl with | [_, _], _ => rfl,
     m_any_moves := PySem.W.mg_of X G a_any_moves,
     f_filled_stages := f_filled_stages,
     d_filled_stages := PySem.W.fnOf "filled_stages" "filled_stages" (defArgs s_filled_stages) (defBody s_filled_stages) (defScope s_filled_stages) .none kV_filled_stages dc_filled_stages pm_filled_stages an_filled_stages cd_filled_stages ct_filled_stages,
     F_filled_stages := fun_mk (st := s_filled_stages) l_filled_stages c_filled_stages k_filled_stages,
     b_filled_stages := (fun_mk (st := s_filled_stages) l_filled_stages c_filled_stages k_filled_stages).binds (ps := ["policy"]) fun _ _ _ _ _ _ us hl => match us, hl with | [_], _ => rfl,
     m_filled_stages := PySem.W.mg_of X G a_filled_stages,
     f_Memory_init := f_Memory_init,
     d_Memory_init := PySem.W.fnOf "__init__" "Memory.__init__" (defArgs s_Memory_init) (defBody s_Memory_init) (defScope s_Memory_init) .none kV_Memory_init dc_Memory_init pm_Memory_init an_Memory_init cd_Memory_init ct_Memory_init,
     F_Memory_init := fun_mk (st := s_Memory_init) l_Memory_init c_Memory_init k_Memory_init,
     b_Memory_init := (fun_mk (st := s_Memory_init) l_Memory_init c_Memory_init k_Memory_init).binds (ps := ["self", "policy"]) fun _ _ _ _ _ _ us hl => match us, hl with | [_, _], _ => rfl,
     mk_Memory := ⟨mk_Memory, a_Memory_init, i_Memory_init, kc_Memory⟩,
     f_is_integer := f_is_integer,
     d_is_integer := PySem.W.fnOf "is_integer" "is_integer" (defArgs s_is_integer) (defBody s_is_integer) (defScope s_is_integer) .none kV_is_integer dc_is_integer pm_is_integer an_is_integer cd_is_integer ct_is_integer,
     F_is_integer := fun_mk (st := s_is_integer) l_is_integer c_is_integer k_is_integer,
     b_is_integer := (fun_mk (st := s_is_integer) l_is_integer c_is_integer k_is_integer).binds (ps := ["value"]) fun _ _ _ _ _ _ us hl => match us, hl with | [_], _ => rfl,
     m_is_integer := PySem.W.mg_of X G a_is_integer,
     f_is_between := f_is_between,
     d_is_between := PySem.W.fnOf "is_between" "is_between" (defArgs s_is_between) (defBody s_is_between) (defScope s_is_between) .none kV_is_between dc_is_between pm_is_between an_is_between cd_is_between ct_is_between,
     F_is_between := fun_mk (st := s_is_between) l_is_between c_is_between k_is_between,
     b_is_between := (fun_mk (st := s_is_between) l_is_between c_is_between k_is_between).binds (ps := ["value", "least", "greatest"]) fun _ _ _ _ _ _ us hl => match us, hl with | [_, _, _], _ => rfl,
     m_is_between := PySem.W.mg_of X G a_is_between,
     f_is_row := f_is_row,
     d_is_row := PySem.W.fnOf "is_row" "is_row" (defArgs s_is_row) (defBody s_is_row) (defScope s_is_row) .none kV_is_row dc_is_row pm_is_row an_is_row cd_is_row ct_is_row,
     F_is_row := fun_mk (st := s_is_row) l_is_row c_is_row k_is_row,
     b_is_row := (fun_mk (st := s_is_row) l_is_row c_is_row k_is_row).binds (ps := ["value", "lines", "states"]) fun _ _ _ _ _ _ us hl => match us, hl with | [_, _, _], _ => rfl,
     m_is_row := PySem.W.mg_of X G a_is_row,
     f_is_policy := f_is_policy,
     d_is_policy := PySem.W.fnOf "is_policy" "is_policy" (defArgs s_is_policy) (defBody s_is_policy) (defScope s_is_policy) .none kV_is_policy dc_is_policy pm_is_policy an_is_policy cd_is_policy ct_is_policy,
     F_is_policy := fun_mk (st := s_is_policy) l_is_policy c_is_policy k_is_policy,
     b_is_policy := (fun_mk (st := s_is_policy) l_is_policy c_is_policy k_is_policy).binds (ps := ["value"]) fun _ _ _ _ _ _ us hl => match us, hl with | [_], _ => rfl,
     m_is_policy := PySem.W.mg_of X G a_is_policy,
     f_check_policy := f_check_policy,
     d_check_policy := PySem.W.fnOf "check_policy" "check_policy" (defArgs s_check_policy) (defBody s_check_policy) (defScope s_check_policy) .none kV_check_policy dc_check_policy pm_check_policy an_check_policy cd_check_policy ct_check_policy,
     F_check_policy := fun_mk (st := s_check_policy) l_check_policy c_check_policy k_check_policy,
     b_check_policy := (fun_mk (st := s_check_policy) l_check_policy c_check_policy k_check_policy).binds (ps := ["policy"]) fun _ _ _ _ _ _ us hl => match us, hl with | [_], _ => rfl,
     m_check_policy := PySem.W.mg_of X G a_check_policy,
     f_forgets := f_forgets,
     d_forgets := PySem.W.fnOf "forgets" "forgets" (defArgs s_forgets) (defBody s_forgets) (defScope s_forgets) .none kV_forgets dc_forgets pm_forgets an_forgets cd_forgets ct_forgets,
     F_forgets := fun_mk (st := s_forgets) l_forgets c_forgets k_forgets,
     b_forgets := (fun_mk (st := s_forgets) l_forgets c_forgets k_forgets).binds (ps := ["policy"]) fun _ _ _ _ _ _ us hl => match us, hl with | [_], _ => rfl,
     m_forgets := PySem.W.mg_of X G a_forgets,
     f__law_later := f__law_later,
     d__law_later := PySem.W.fnOf "_law_later" "_law_later" (defArgs s__law_later) (defBody s__law_later) (defScope s__law_later) .none kV__law_later dc__law_later pm__law_later an__law_later cd__law_later ct__law_later,
     F__law_later := fun_mk (st := s__law_later) l__law_later c__law_later k__law_later,
     b__law_later := (fun_mk (st := s__law_later) l__law_later c__law_later k__law_later).binds (ps := ["_law_table_here", "_law_spot"]) fun _ _ _ _ _ _ us hl => match us, hl with | [_, _], _ => rfl,
     m__law_later := PySem.W.mg_of X G a__law_later,
     f__law_begun := f__law_begun,
     d__law_begun := PySem.W.fnOf "_law_begun" "_law_begun" (defArgs s__law_begun) (defBody s__law_begun) (defScope s__law_begun) .none kV__law_begun dc__law_begun pm__law_begun an__law_begun cd__law_begun ct__law_begun,
     F__law_begun := fun_mk (st := s__law_begun) l__law_begun c__law_begun k__law_begun,
     b__law_begun := (fun_mk (st := s__law_begun) l__law_begun c__law_begun k__law_begun).binds (ps := ["_law_table_here"]) fun _ _ _ _ _ _ us hl => match us, hl with | [_], _ => rfl,
     m__law_begun := PySem.W.mg_of X G a__law_begun,
     f__law_starts := f__law_starts,
     d__law_starts := PySem.W.fnOf "_law_starts" "_law_starts" (defArgs s__law_starts) (defBody s__law_starts) (defScope s__law_starts) .none kV__law_starts dc__law_starts pm__law_starts an__law_starts cd__law_starts ct__law_starts,
     F__law_starts := fun_mk (st := s__law_starts) l__law_starts c__law_starts k__law_starts,
     b__law_starts := (fun_mk (st := s__law_starts) l__law_starts c__law_starts k__law_starts).binds (ps := ["_law_table_here"]) fun _ _ _ _ _ _ us hl => match us, hl with | [_], _ => rfl,
     m__law_starts := PySem.W.mg_of X G a__law_starts,
     f__law_forgotten := f__law_forgotten,
     d__law_forgotten := PySem.W.fnOf "_law_forgotten" "_law_forgotten" (defArgs s__law_forgotten) (defBody s__law_forgotten) (defScope s__law_forgotten) .none kV__law_forgotten dc__law_forgotten pm__law_forgotten an__law_forgotten cd__law_forgotten ct__law_forgotten,
     F__law_forgotten := fun_mk (st := s__law_forgotten) l__law_forgotten c__law_forgotten k__law_forgotten,
     b__law_forgotten := (fun_mk (st := s__law_forgotten) l__law_forgotten c__law_forgotten k__law_forgotten).binds (ps := ["_law_table_here"]) fun _ _ _ _ _ _ us hl => match us, hl with | [_], _ => rfl,
     m__law_forgotten := PySem.W.mg_of X G a__law_forgotten,
     f__law_asked := f__law_asked,
     d__law_asked := PySem.W.fnOf "_law_asked" "_law_asked" (defArgs s__law_asked) (defBody s__law_asked) (defScope s__law_asked) .none kV__law_asked dc__law_asked pm__law_asked an__law_asked cd__law_asked ct__law_asked,
     F__law_asked := fun_mk (st := s__law_asked) l__law_asked c__law_asked k__law_asked,
     b__law_asked := (fun_mk (st := s__law_asked) l__law_asked c__law_asked k__law_asked).binds (ps := ["_law_table_here"]) fun _ _ _ _ _ _ us hl => match us, hl with | [_], _ => rfl,
     m__law_asked := PySem.W.mg_of X G a__law_asked,
     f__law_draw := f__law_draw,
     d__law_draw := PySem.W.fnOf "_law_draw" "_law_draw" (defArgs s__law_draw) (defBody s__law_draw) (defScope s__law_draw) .none kV__law_draw dc__law_draw pm__law_draw an__law_draw cd__law_draw ct__law_draw,
     F__law_draw := fun_mk (st := s__law_draw) l__law_draw c__law_draw k__law_draw,
     b__law_draw := (fun_mk (st := s__law_draw) l__law_draw c__law_draw k__law_draw).binds (ps := ["_law_pool_here", "_law_most"]) fun _ _ _ _ _ _ us hl => match us, hl with | [_, _], _ => rfl,
     m__law_draw := PySem.W.mg_of X G a__law_draw,
     f__law_policy := f__law_policy,
     d__law_policy := PySem.W.fnOf "_law_policy" "_law_policy" (defArgs s__law_policy) (defBody s__law_policy) (defScope s__law_policy) .none kV__law_policy dc__law_policy pm__law_policy an__law_policy cd__law_policy ct__law_policy,
     F__law_policy := fun_mk (st := s__law_policy) l__law_policy c__law_policy k__law_policy,
     b__law_policy := (fun_mk (st := s__law_policy) l__law_policy c__law_policy k__law_policy).binds (ps := ["_law_pool_here", "_law_lines", "_law_states"]) fun _ _ _ _ _ _ us hl => match us, hl with | [_, _, _], _ => rfl,
     m__law_policy := PySem.W.mg_of X G a__law_policy,
     f__law_queue := f__law_queue,
     d__law_queue := PySem.W.fnOf "_law_queue" "_law_queue" (defArgs s__law_queue) (defBody s__law_queue) (defScope s__law_queue) .none kV__law_queue dc__law_queue pm__law_queue an__law_queue cd__law_queue ct__law_queue,
     F__law_queue := fun_mk (st := s__law_queue) l__law_queue c__law_queue k__law_queue,
     b__law_queue := (fun_mk (st := s__law_queue) l__law_queue c__law_queue k__law_queue).binds (ps := ["_law_lines"]) fun _ _ _ _ _ _ us hl => match us, hl with | [_], _ => rfl,
     m__law_queue := PySem.W.mg_of X G a__law_queue,
     f__law_recent := f__law_recent,
     d__law_recent := PySem.W.fnOf "_law_recent" "_law_recent" (defArgs s__law_recent) (defBody s__law_recent) (defScope s__law_recent) .none kV__law_recent dc__law_recent pm__law_recent an__law_recent cd__law_recent ct__law_recent,
     F__law_recent := fun_mk (st := s__law_recent) l__law_recent c__law_recent k__law_recent,
     b__law_recent := (fun_mk (st := s__law_recent) l__law_recent c__law_recent k__law_recent).binds (ps := ["_law_lines"]) fun _ _ _ _ _ _ us hl => match us, hl with | [_], _ => rfl,
     m__law_recent := PySem.W.mg_of X G a__law_recent,
     f__law_table := f__law_table,
     d__law_table := PySem.W.fnOf "_law_table" "_law_table" (defArgs s__law_table) (defBody s__law_table) (defScope s__law_table) .none kV__law_table dc__law_table pm__law_table an__law_table cd__law_table ct__law_table,
     F__law_table := fun_mk (st := s__law_table) l__law_table c__law_table k__law_table,
     b__law_table := (fun_mk (st := s__law_table) l__law_table c__law_table k__law_table).binds (ps := ["_law_pool_here"]) fun _ _ _ _ _ _ us hl => match us, hl with | [_], _ => rfl,
     m__law_table := PySem.W.mg_of X G a__law_table,
     f__law_right := f__law_right,
     d__law_right := PySem.W.fnOf "_law_right" "_law_right" (defArgs s__law_right) (defBody s__law_right) (defScope s__law_right) .none kV__law_right dc__law_right pm__law_right an__law_right cd__law_right ct__law_right,
     F__law_right := fun_mk (st := s__law_right) l__law_right c__law_right k__law_right,
     b__law_right := (fun_mk (st := s__law_right) l__law_right c__law_right k__law_right).binds (ps := ["_law_pool_here"]) fun _ _ _ _ _ _ us hl => match us, hl with | [_], _ => rfl,
     m__law_right := PySem.W.mg_of X G a__law_right,
     f__law_pool := f__law_pool,
     d__law_pool := PySem.W.fnOf "_law_pool" "_law_pool" (defArgs s__law_pool) (defBody s__law_pool) (defScope s__law_pool) .none kV__law_pool dc__law_pool pm__law_pool an__law_pool cd__law_pool ct__law_pool,
     F__law_pool := fun_mk (st := s__law_pool) l__law_pool c__law_pool k__law_pool,
     b__law_pool := (fun_mk (st := s__law_pool) l__law_pool c__law_pool k__law_pool).binds (ps := ["_law_figure"]) fun _ _ _ _ _ _ us hl => match us, hl with | [_], _ => rfl,
     m__law_pool := PySem.W.mg_of X G a__law_pool,
     f__law_cell := f__law_cell,
     d__law_cell := PySem.W.fnOf "_law_cell" "_law_cell" (defArgs s__law_cell) (defBody s__law_cell) (defScope s__law_cell) .none kV__law_cell dc__law_cell pm__law_cell an__law_cell cd__law_cell ct__law_cell,
     F__law_cell := fun_mk (st := s__law_cell) l__law_cell c__law_cell k__law_cell,
     b__law_cell := (fun_mk (st := s__law_cell) l__law_cell c__law_cell k__law_cell).binds (ps := ["_law_script", "_law_k"]) fun _ _ _ _ _ _ us hl => match us, hl with | [_, _], _ => rfl,
     m__law_cell := PySem.W.mg_of X G a__law_cell,
     f__law_seldom := f__law_seldom,
     d__law_seldom := PySem.W.fnOf "_law_seldom" "_law_seldom" (defArgs s__law_seldom) (defBody s__law_seldom) (defScope s__law_seldom) .none kV__law_seldom dc__law_seldom pm__law_seldom an__law_seldom cd__law_seldom ct__law_seldom,
     F__law_seldom := fun_mk (st := s__law_seldom) l__law_seldom c__law_seldom k__law_seldom,
     b__law_seldom := (fun_mk (st := s__law_seldom) l__law_seldom c__law_seldom k__law_seldom).binds (ps := []) fun _ _ _ _ _ _ us hl => match us, hl with | [], _ => rfl,
     m__law_seldom := PySem.W.mg_of X G a__law_seldom,
     f__law_blocks := f__law_blocks,
     d__law_blocks := PySem.W.fnOf "_law_blocks" "_law_blocks" (defArgs s__law_blocks) (defBody s__law_blocks) (defScope s__law_blocks) .none kV__law_blocks dc__law_blocks pm__law_blocks an__law_blocks cd__law_blocks ct__law_blocks,
     F__law_blocks := fun_mk (st := s__law_blocks) l__law_blocks c__law_blocks k__law_blocks,
     b__law_blocks := (fun_mk (st := s__law_blocks) l__law_blocks c__law_blocks k__law_blocks).binds (ps := ["_law_many"]) fun _ _ _ _ _ _ us hl => match us, hl with | [_], _ => rfl,
     m__law_blocks := PySem.W.mg_of X G a__law_blocks,
     f__law_lasting := f__law_lasting,
     d__law_lasting := PySem.W.fnOf "_law_lasting" "_law_lasting" (defArgs s__law_lasting) (defBody s__law_lasting) (defScope s__law_lasting) .none kV__law_lasting dc__law_lasting pm__law_lasting an__law_lasting cd__law_lasting ct__law_lasting,
     F__law_lasting := fun_mk (st := s__law_lasting) l__law_lasting c__law_lasting k__law_lasting,
     b__law_lasting := (fun_mk (st := s__law_lasting) l__law_lasting c__law_lasting k__law_lasting).binds (ps := []) fun _ _ _ _ _ _ us hl => match us, hl with | [], _ => rfl,
     m__law_lasting := PySem.W.mg_of X G a__law_lasting,
     f_law := f_law,
     d_law := PySem.W.fnOf "law" "law" (defArgs s_law) (defBody s_law) (defScope s_law) .none kV_law dc_law pm_law an_law cd_law ct_law,
     F_law := fun_mk (st := s_law) l_law c_law k_law,
     b_law := (fun_mk (st := s_law) l_law c_law k_law).binds (ps := ["_law_script"]) fun _ _ _ _ _ _ us hl => match us, hl with | [_], _ => rfl,
     m_law := PySem.W.mg_of X G a_law,
     na_Memory_edges := na_Memory_edges,
     na_Memory_ranks := na_Memory_ranks,
     na_Memory_stages := na_Memory_stages,
     na_Memory_starts := na_Memory_starts,
     n_abs := PySem.W.mg_none_of X G z_abs,
     n_all := PySem.W.mg_none_of X G z_all,
     n_bool := PySem.W.mg_none_of X G z_bool,
     n_divmod := PySem.W.mg_none_of X G z_divmod,
     n_int := PySem.W.mg_none_of X G z_int,
     n_isinstance := PySem.W.mg_none_of X G z_isinstance,
     n_len := PySem.W.mg_none_of X G z_len,
     n_list := PySem.W.mg_none_of X G z_list,
     n_max := PySem.W.mg_none_of X G z_max,
     n_min := PySem.W.mg_none_of X G z_min,
     n_range := PySem.W.mg_none_of X G z_range,
     n_repr := PySem.W.mg_none_of X G z_repr,
     n_tuple := PySem.W.mg_none_of X G z_tuple,
     g_MOST_LINES := ⟨.int 4, _, PySem.W.mg_of X G g_MOST_LINES, ⟨_, rfl⟩, fun _ _ => .int _⟩,
     g_MOST_STATES := ⟨.int 64, _, PySem.W.mg_of X G g_MOST_STATES, ⟨_, rfl⟩, fun _ _ => .int _⟩,
     kw_forgets_0 := fun s ws _ hl => .of_eq (match ws, hl with | [_], _ => rfl) },
   (Option.some.inj ((PySem.W.mg_of X G a_law).symm.trans hfa)) |> Value.ref.inj, fun s v => .of_eq rfl⟩
end L60


/-! text G1_60 -/
local macro_rules | `(tactic| bv_omega) => `(tactic| first | assumption | exact Zl.at_new | (apply Zl.at_set; bv_omega) | (apply Zl.at_set_ne; (focus (bv_omega; done)); omega) | (apply Zl.at_app; bv_omega) | (apply Zl.Kp.at; (focus (assumption; done)); (focus (bv_omega; done)); first | exact id | omega))
local macro_rules | `(tactic| array_mem_dec) => `(tactic| first | exact Zl.Kp.refl | assumption | (apply Zl.Kp.setl; (focus (array_mem_dec; done)); (intro _; omega)) | (apply Zl.Kp.appl; array_mem_dec) | (apply Zl.Kp.tl; (focus (assumption; done)); (focus (array_mem_dec; done)); intro n hn hw; first | exact hw | exact hw.elim | omega))
local macro_rules | `(tactic| subst_eqs) => `(tactic| first | exact Zl.rdL_nil | (apply Zl.rd_loc; (focus (bv_omega; done)); subst_eqs) | (apply Zl.rd_tup; subst_eqs) | (apply Zl.rdL_cons; (focus (subst_eqs; done)); subst_eqs) | exact Zl.rd_bls _ | with_unfolding_all rfl)
local macro_rules | `(tactic| simp_wf) => `(tactic| with_reducible repeat (first | apply Zl.wp_seq | apply Zl.k_nx | apply Zl.k_rt | apply Zl.k_bk | apply Zl.k_ct | apply Zl.wp_ret | apply Zl.wp_set | apply Zl.wp_drop | apply Zl.wp_asg | apply Zl.wp_par | apply Zl.wp_ifs | apply Zl.wp_end | apply Zl.wp_brk | apply Zl.wp_cnt | apply Zl.kf_rt | apply Zl.kf_nx | apply Zl.wp_k | apply Zl.wp_op | apply Zl.wp_un | apply Zl.wp_chain | apply Zl.wp_b | apply Zl.wp_trB | apply Zl.wp_not | apply Zl.wp_andT | apply Zl.wp_orT | apply Zl.wp_andV | apply Zl.wp_notV | apply Zl.wp_if | apply Zl.wp_nil | apply Zl.wp_cons | apply Zl.wp_tup | apply Zl.wp_lstA | apply Zl.wp_c | apply Zl.wp_call | apply Zl.wp_slP | apply Zl.wp_noP | apply Zl.wp_gN | apply Zl.wp_gsNil | apply Zl.wp_gsCons | apply Zl.wp_gS | apply Zl.wp_addI | apply Zl.wp_subI | apply Zl.wp_cmp | apply Zl.wp_eqI | apply Zl.wp_eqS | apply Zl.kb | apply Zl.ki_t | apply Zl.ki_f | apply Zl.kc_t | apply Zl.kc_f | apply Zl.wp_fld | apply Zl.wp_put | apply Zl.wp_meth | apply Zl.wp_make | apply Zl.wp_m | apply Zl.wp_src | apply Zl.wp_enum | apply Zl.wq_zip | apply Zl.wp_rngN | apply Zl.wp_P | apply Zl.wp_ok | apply Zl.wp_bnd | apply Zl.wq_dnew | apply Zl.kl_nx | apply Zl.kl_rt | apply Zl.kl_ct | apply Zl.kl_bk | refine Zl.wp_var (by with_unfolding_all rfl) ?_ | refine Zl.k_len (by with_unfolding_all rfl) ?_ | refine Zl.k_le (by with_unfolding_all rfl) ?_ | refine Zl.wp_isi (by with_unfolding_all rfl) ?_ | refine Zl.wp_len (by with_unfolding_all rfl) ?_ | refine Zl.wp_intd (by with_unfolding_all rfl) ?_ | refine Zl.wp_ixT (by with_unfolding_all rfl) ?_ | refine Zl.wp_gT (by with_unfolding_all rfl) ?_ | refine Zl.wp_gPr (by with_unfolding_all rfl) ?_))
local macro_rules | `(tactic| clean_wf) => `(tactic| with_reducible repeat (first | apply Zl.wp_seq | apply Zl.k_nx | apply Zl.k_rt | apply Zl.k_bk | apply Zl.k_ct | apply Zl.wp_ret | apply Zl.wp_set | apply Zl.wp_drop | apply Zl.wp_asg | apply Zl.wp_par | apply Zl.wp_ifs | apply Zl.wp_end | apply Zl.wp_brk | apply Zl.wp_cnt | apply Zl.kf_rt | apply Zl.kf_nx | apply Zl.wp_k | apply Zl.wp_op | apply Zl.wp_un | apply Zl.wp_chain | apply Zl.wp_b | apply Zl.wp_trB | apply Zl.wp_not | apply Zl.wp_andT | apply Zl.wp_orT | apply Zl.wp_andV | apply Zl.wp_notV | apply Zl.wp_if | apply Zl.wp_nil | apply Zl.wp_cons | apply Zl.wp_tup | apply Zl.wp_lst | apply Zl.wp_c | apply Zl.wp_call | apply Zl.wp_slP | apply Zl.wp_noP | apply Zl.wp_gN | apply Zl.wp_gsNil | apply Zl.wp_gsCons | apply Zl.wp_gS | apply Zl.wp_addI | apply Zl.wp_subI | apply Zl.wp_cmp | apply Zl.wp_eqI | apply Zl.wp_eqS | apply Zl.kb | apply Zl.ki_t | apply Zl.ki_f | apply Zl.kc_t | apply Zl.kc_f | apply Zl.wp_fld | apply Zl.wp_put | apply Zl.wp_meth | apply Zl.wp_make | apply Zl.wp_m | apply Zl.wp_src | apply Zl.wp_enum | apply Zl.wq_zip | apply Zl.wp_rngN | apply Zl.wp_P | apply Zl.wp_ok | apply Zl.wp_bnd | apply Zl.wq_dnew | apply Zl.kl_nx | apply Zl.kl_rt | apply Zl.kl_ct | apply Zl.kl_bk | refine Zl.wp_var (by with_unfolding_all rfl) ?_ | refine Zl.k_len (by with_unfolding_all rfl) ?_ | refine Zl.k_le (by with_unfolding_all rfl) ?_ | refine Zl.wp_isi (by with_unfolding_all rfl) ?_ | refine Zl.wp_len (by with_unfolding_all rfl) ?_ | refine Zl.wp_intd (by with_unfolding_all rfl) ?_ | refine Zl.wp_ixT (by with_unfolding_all rfl) ?_ | refine Zl.wp_gT (by with_unfolding_all rfl) ?_ | refine Zl.wp_gPr (by with_unfolding_all rfl) ?_))
local macro_rules | `(tactic| array_get_dec) => `(tactic| with_reducible repeat (first | apply Zl.wp_seq | apply Zl.k_nx | apply Zl.k_rt | apply Zl.k_bk | apply Zl.k_ct | apply Zl.wp_ret | apply Zl.wp_set | apply Zl.wp_drop | apply Zl.wp_asg | apply Zl.wp_par | apply Zl.wp_ifs | apply Zl.wp_end | apply Zl.wp_brk | apply Zl.wp_cnt | apply Zl.kf_rt | apply Zl.kf_nx | apply Zl.wp_k | apply Zl.wp_op | apply Zl.wp_un | apply Zl.wp_chain | apply Zl.wp_b | apply Zl.wp_trB | apply Zl.wp_not | apply Zl.wp_andT | apply Zl.wp_orT | apply Zl.wp_andV | apply Zl.wp_notV | apply Zl.wp_if | apply Zl.wp_nil | apply Zl.wp_cons | apply Zl.wp_tup | apply Zl.wq_lst | apply Zl.wp_c | apply Zl.wp_call | apply Zl.wp_slP | apply Zl.wp_noP | apply Zl.wp_gN | apply Zl.wp_gsNil | apply Zl.wp_gsCons | apply Zl.wq_gS | apply Zl.wp_addI | apply Zl.wp_subI | apply Zl.wp_cmp | apply Zl.wp_eqI | apply Zl.wp_eqS | apply Zl.kb | apply Zl.ki_t | apply Zl.ki_f | apply Zl.kc_t | apply Zl.kc_f | apply Zl.wq_fld | apply Zl.wq_put | apply Zl.wq_meth' | apply Zl.wq_make2 | apply Zl.wq_m | apply Zl.wq_src | apply Zl.wq_enum | apply Zl.wq_zip | apply Zl.wq_rng | apply Zl.wq_P | apply Zl.wp_ok | apply Zl.wp_bnd | apply Zl.wq_dnew | apply Zl.kl_nx | apply Zl.kl_rt | apply Zl.kl_ct | apply Zl.kl_bk | refine Zl.wp_var (by with_unfolding_all rfl) ?_ | refine Zl.k_len (by with_unfolding_all rfl) ?_ | refine Zl.k_le (by with_unfolding_all rfl) ?_ | refine Zl.wp_isi (by with_unfolding_all rfl) ?_ | refine Zl.wp_len (by with_unfolding_all rfl) ?_ | refine Zl.wp_intd (by with_unfolding_all rfl) ?_ | refine Zl.wp_ixT (by with_unfolding_all rfl) ?_ | refine Zl.wp_gT (by with_unfolding_all rfl) ?_ | refine Zl.wp_gPr (by with_unfolding_all rfl) ?_ | apply Zl.wq_gFld | (apply Zl.ws_lstL; (focus (bv_omega; done))) | apply Zl.ws_lstT | (apply Zl.k_enumM; (focus (bv_omega; done))) | (apply Zl.k_fld; (focus (bv_omega; done)); (focus (with_unfolding_all rfl; done))) | (apply Zl.k_putO; (focus (bv_omega; done)); (focus (with_unfolding_all rfl; done))) | (apply Zl.k_ins; (focus (bv_omega; done)); (focus (with_unfolding_all rfl; done))) | apply Zl.k_pos | apply Zl.k_non | (apply Zl.k_tyL; (focus (bv_omega; done))) | apply Zl.k_tyT | (apply Zl.k_srcL; (focus (bv_omega; done))) | apply Zl.k_srcT | apply Zl.k_srcR | apply Zl.k_zipT | apply Zl.k_enumT | (apply Zl.wr_lstL; (focus (bv_omega; done))) | apply Zl.wr_lstT | apply Zl.k_srcS | (apply Zl.wp_aug; (focus (with_unfolding_all rfl; done))) | apply Zl.k_int | apply Zl.k_nat | apply Zl.k_natL | (apply Zl.k_sml; (focus ((first | omega | with_unfolding_all decide); done))) | (apply Zl.k_new; intro _ _ _ _ _ _) | (apply Zl.k_wr; intro _ _ _ _) | apply Zl.kt_nx | apply Zl.kt_ct | apply Zl.kt_bk | apply Zl.kt_rt | (apply Zl.k_acc; (focus (bv_omega; done)); (focus (with_unfolding_all rfl; done))) | (apply Zl.wv_map; (focus (with_unfolding_all rfl; done)); (focus ((first | with_unfolding_all rfl | (apply Zl.stpL_go; (focus (bv_omega; done)); with_unfolding_all rfl) | (apply Zl.stpL_end; bv_omega) | (refine Eq.trans (Zl.stpL_at (by bv_omega)) ?_; with_unfolding_all rfl)); done))) | (apply Zl.wuc_end; (focus ((first | with_unfolding_all rfl | (apply Zl.stpL_go; (focus (bv_omega; done)); with_unfolding_all rfl) | (apply Zl.stpL_end; bv_omega) | (refine Eq.trans (Zl.stpL_at (by bv_omega)) ?_; with_unfolding_all rfl)); done))) | (apply Zl.wv_go; (focus (with_unfolding_all rfl; done)); (focus ((first | with_unfolding_all rfl | (apply Zl.stpL_go; (focus (bv_omega; done)); with_unfolding_all rfl) | (apply Zl.stpL_end; bv_omega) | (refine Eq.trans (Zl.stpL_at (by bv_omega)) ?_; with_unfolding_all rfl)); done))) | (apply Zl.wu_end; (focus ((first | with_unfolding_all rfl | (apply Zl.stpL_go; (focus (bv_omega; done)); with_unfolding_all rfl) | (apply Zl.stpL_end; bv_omega) | (refine Eq.trans (Zl.stpL_at (by bv_omega)) ?_; with_unfolding_all rfl)); done))) | (apply Zl.wp_ixL; (focus (bv_omega; done)); (focus ((first | (apply Zl.atI_n; assumption) | with_unfolding_all rfl); done))) | (apply Zl.wp_ixT; (focus ((apply Zl.atI_n; assumption); done))) | (apply Zl.k_setO; (focus (bv_omega; done)); (focus (with_unfolding_all rfl; done))) | (apply Zl.k_setDk; (focus (bv_omega; done)); (focus (with_unfolding_all rfl; done)); (focus (omega; done))) | (apply Zl.wp_lenL; (focus (bv_omega; done))) | (apply Zl.wp_tupL; (focus (bv_omega; done))) | (apply Zl.wp_modI; (focus (omega; done))) | (apply Zl.wp_fdivI; (focus (omega; done))) | (apply Zl.wp_mulI; (focus (omega; done))) | apply Zl.wp_slT | (apply Zl.wq_addT; (focus ((first | (simp; done) | with_unfolding_all decide); done))) | (apply Zl.wq_addL; (focus (bv_omega; done)); (focus (bv_omega; done)); (focus ((first | (simp; done) | with_unfolding_all decide); done))) | apply Zl.wq_slR | (apply Zl.wq_slL; (focus (bv_omega; done))) | (apply Zl.wp_gL; (focus (bv_omega; done)); (focus (with_unfolding_all rfl; done)))))
local macro_rules | `(tactic| ac_nf0) => `(tactic| first | rfl | decide | (simp; done) | (simp; omega))
namespace L60
open PySem L2 PySem.Spec PyProof.Rows Zl
def Pool (p : Nat) (M : Mem) : Prop := ∃ a b c : Int, M[p]? = some (.lst [.int a, .int b, .int c])
abbrev At (p : Nat) : Nat → Prop := fun n => n = p
theorem sp_draw {p : Nat} {m : Int} {M : Mem} (h : Pool p M) (hm : 0 < m) (hm2 : m < 1073741824) : Wp (m__law_draw [.loc p, .int m] M) fun d M' => (∃ r : Nat, d = .int r ∧ (r : Int) < m) ∧ Pool p M' ∧ Kp (At p) M M' := by
  obtain ⟨a, b, c, h⟩ := h
  refine wp_fn rfl [some (.loc p), some (.int m), none, none] rfl ?_
  unfold b__law_draw
  clean_wf
  refine wp_ixL h rfl ?_
  clean_wf
  refine ⟨_, set_i (j := 2) h rfl, ?_⟩
  have k1 : Kp (At p) M (M.set p (.lst ([.int a, .int b, .int c].set 2 (.int (c + 1))))) := .set fun _ => rfl
  have h1 := at_set (o := .lst ([.int a, .int b, .int c].set 2 (.int (c + 1)))) h
  generalize M.set p (.lst ([.int a, .int b, .int c].set 2 (.int (c + 1)))) = M1 at k1 h1
  clean_wf
  refine wp_ixL h1 rfl ?_
  clean_wf
  refine wp_modI (by decide) ?_
  clean_wf
  refine wp_mulI (.inr (by omega)) ?_
  clean_wf
  refine wp_ixL h1 rfl ?_
  refine wp_mulI (.inl (by decide)) ?_
  clean_wf
  refine wp_modI (by decide) ?_
  clean_wf
  refine ⟨_, set_i (j := 0) h1 rfl, ?_⟩
  generalize hv : ((a * (a % 50021 + 30011) + 80021 * (c + 1)) % 2147483249 : Int) = v
  have k2 : Kp (At p) M1 (M1.set p (.lst (([.int a, .int b, .int c].set 2 (.int (c + 1))).set 0 (.int v)))) := .set fun _ => rfl
  have h2 : (M1.set p (.lst (([.int a, .int b, .int c].set 2 (.int (c + 1))).set 0 (.int v))))[p]? = some (.lst [.int v, .int b, .int (c + 1)]) := at_set h1
  have k3 := k1.tr k2
  generalize M1.set p (.lst (([.int a, .int b, .int c].set 2 (.int (c + 1))).set 0 (.int v))) = M2 at k3 h2
  clean_wf
  refine wp_ixL h2 rfl ?_
  clean_wf
  by_cases hb : (0 : Int) < b
  · refine ki_of (decide_eq_true hb) ?_
    clean_wf
    refine wp_ixL h2 rfl ?_
    clean_wf
    refine wp_ev (if_pos ⟨hm, hm2⟩) ?_
    clean_wf
    refine ⟨_, set_i (j := 1) h2 rfl, ?_⟩
    clean_wf
    refine ⟨⟨(b % m).toNat, ?_, ?_⟩, ⟨v, b / m, c + 1, at_set h2⟩, k3.tr (.set fun _ => rfl)⟩
    · rw [Int.toNat_of_nonneg (Int.emod_nonneg _ (by omega))]
    · rw [Int.toNat_of_nonneg (Int.emod_nonneg _ (by omega))]
      exact Int.emod_lt_of_pos _ hm
  · refine ki_of (decide_eq_false hb) ?_
    clean_wf
    refine wp_ixL h2 rfl ?_
    clean_wf
    refine wp_fdivI (by decide) ?_
    clean_wf
    refine wp_modI hm ?_
    clean_wf
    refine ⟨⟨(v / 64 % m).toNat, ?_, ?_⟩, ⟨v, b, c + 1, h2⟩, k3⟩
    · rw [Int.toNat_of_nonneg (Int.emod_nonneg _ (by omega))]
    · rw [Int.toNat_of_nonneg (Int.emod_nonneg _ (by omega))]
      exact Int.emod_lt_of_pos _ hm

theorem Pool.keep {p n : Nat} {M : Mem} {o : Ob} (h : Pool p M) (e : p ≠ n) : Pool p (M.set n o) := by
  obtain ⟨a, b, c, h⟩ := h
  exact ⟨a, b, c, at_set_ne h (Ne.symm e)⟩
theorem Pool.app {p : Nat} {M L : Mem} (h : Pool p M) : Pool p (M ++ L) := by
  obtain ⟨a, b, c, h⟩ := h
  exact ⟨a, b, c, at_app h⟩
theorem Pool.lt {p : Nat} {M : Mem} (h : Pool p M) : p < M.length := by
  obtain ⟨a, b, c, h⟩ := h
  exact lt_of h
theorem Pool.kp {p : Nat} {M M' : Mem} (h : Pool p M) (k : Kp NoW M M') : Pool p M' := by
  obtain ⟨a, b, c, h⟩ := h
  exact ⟨a, b, c, k.at h id⟩
end L60

/-! text G2_60 -/
namespace L60
open PySem L2 PySem.Spec PyProof.Rows Zl
/-- names -/
def okName (x : Str) : Bool := decide (1 ≤ x.length) && decide (x.length ≤ 6) && x.cps.toList.all fun c => decide (c ∈ ("abcdefghijklmnopqrstuvwxyz" : Str).cps.toList)
def strsD (ws : List Str) : List Dv := ws.map .str
def intsN (ns : List Nat) : List Dv := ns.map fun n => .int (n : Nat)
theorem sp_pool {x : Int} {M : Mem} : Wp (m__law_pool [.int x] M) fun d M' => ∃ p, d = .loc p ∧ p = M.length ∧ Pool p M' ∧ Kp NoW M M' := by
  refine wp_fn rfl [some (.int x), none] rfl ?_
  unfold b__law_pool
  simp_wf
  by_cases h1 : x < 0
  · refine ki_of (decide_eq_true h1) ?_
    simp_wf
    refine wp_ev (a := .int (if x < 0 then -x else x)) rfl ?_
    simp_wf
    refine wp_modI (by decide) ?_
    simp_wf
    intro n1 M1 e1 g1 k1 l1
    simp_wf
    exact ⟨n1, rfl, e1, ⟨_, _, _, g1⟩, k1⟩
  · refine ki_of (decide_eq_false h1) ?_
    simp_wf
    refine wp_ev (a := .int 1000000000000000000) rfl ?_
    simp_wf
    by_cases h2 : (1000000000000000000 : Int) ≤ x
    · refine ki_of (decide_eq_true h2) ?_
      simp_wf
      refine wp_ev (a := .int (if x < 0 then -x else x)) rfl ?_
      simp_wf
      refine wp_modI (by decide) ?_
      simp_wf
      intro n1 M1 e1 g1 k1 l1
      simp_wf
      exact ⟨n1, rfl, e1, ⟨_, _, _, g1⟩, k1⟩
    · refine ki_of (decide_eq_false h2) ?_
      simp_wf
      refine wp_modI (by decide) ?_
      simp_wf
      intro n1 M1 e1 g1 k1 l1
      simp_wf
      exact ⟨n1, rfl, e1, ⟨_, _, _, g1⟩, k1⟩
theorem sp_cell {ns : List Int} {k : Nat} {M : Mem} (hk : k < 100) : Wp (m__law_cell [.rol (ns.map .int), .int (k : Nat)] M) fun d M' => (∃ x : Int, d = .int x) ∧ Kp NoW M M' := by
  refine wp_fn rfl [some (.rol (ns.map .int)), some (.int (k : Nat)), none, none] rfl ?_
  unfold b__law_cell
  simp_wf
  by_cases h : (k : Int) < ((ns.map Dv.int).length : Nat)
  · refine ki_of (decide_eq_true h) ?_
    simp_wf
    have h' : k < ns.length := by simpa using h
    refine wp_ixR (atI_n (x := Dv.int ns[k]) (by simp [h'])) ?_
    simp_wf
    exact ⟨⟨_, rfl⟩, .refl⟩
  · refine ki_of (decide_eq_false h) ?_
    simp_wf
    refine wp_mulI (.inr (by omega)) ?_
    simp_wf
    refine wp_mulI (.inl (by decide)) ?_
    simp_wf
    refine wp_mulI (.inl (by decide)) ?_
    simp_wf
    refine wp_modI (by decide) ?_
    simp_wf
    refine wp_for (fun i env M' => ∃ (x3 : Option Dv) (z : Int), env = [some (.rol (ns.map .int)), some (.int (k : Nat)), some (.int z), x3] ∧ M'[M.length]? = some (.lst (cutD (ns.map .int) none (some 3))) ∧ Kp NoW M M') ?_
    simp_wf
    refine ⟨_, rfl, ?_⟩
    refine wp_slR ?_
    rintro _ M1 rfl g1 k1 _
    refine ⟨_, src_loc g1, ⟨none, _, rfl, g1, k1⟩, ?_, ?_⟩
    · rintro i env M' hi ⟨x3, z, rfl, g2, k2⟩
      have hi' : i < (cutD (ns.map Dv.int) none (some 3)).length := hi
      have hm := cut_mem (List.getElem_mem hi')
      obtain ⟨v, _, hv⟩ := List.mem_map.mp hm
      refine ⟨.int v, by show stpL _ i M' = _; rw [stpL_at g2, List.getElem?_eq_getElem hi', hv], ?_⟩
      simp_wf
      refine wp_mulI (.inr (by decide)) ?_
      simp_wf
      refine wp_modI (by decide) ?_
      simp_wf
      exact ⟨_, _, rfl, g2, k2⟩
    · rintro env M' ⟨x3, z, rfl, g2, k2⟩
      refine ⟨by show stpL _ _ M' = _; rw [stpL_at g2]; simp, ?_⟩
      simp_wf
      exact ⟨⟨_, rfl⟩, k2⟩
end L60

/-! text A0_60 -/
namespace L60
open PySem L2 PySem.Spec PyProof.Rows Zl
structure Row where
  v : Nat
  s : Nat
  hits : List Nat
  deriving DecidableEq
structure Tb where
  l : Nat
  rows : List Row
  deriving DecidableEq
def rowD (r : Row) : Dv := .tup [.int (r.v : Nat), .int (r.s : Nat), .tup (intsN r.hits)]
def tabD (t : Tb) : Dv := .tup [.int (t.l : Nat), .tup (t.rows.map rowD)]
def OkR (l n : Nat) (r : Row) : Prop := r.v < l ∧ r.s < n ∧ r.hits.length = l ∧ ∀ h ∈ r.hits, h < n
structure OkT (t : Tb) : Prop where
  l1 : 1 ≤ t.l
  l4 : t.l ≤ 4
  r1 : 1 ≤ t.rows.length
  r64 : t.rows.length ≤ 64
  ok : ∀ r ∈ t.rows, OkR t.l t.rows.length r
theorem nats_of {s : Nat} : ∀ {xs ys : List Dv}, All2 (fun _ y => ∃ r : Nat, y = Dv.int r ∧ (r : Int) < s) xs ys → ∃ ns : List Nat, ys = intsN ns ∧ ns.length = xs.length ∧ ∀ n ∈ ns, n < s
  | _, _, .nil => ⟨[], rfl, rfl, fun n h => by simp at h⟩
  | _, _, .cons ⟨r, e, hr⟩ t => by
    obtain ⟨ns, e2, h2, h3⟩ := nats_of t
    refine ⟨r :: ns, by rw [e, e2]; rfl, by simp [h2], fun n hn => ?_⟩
    rcases List.mem_cons.mp hn with e | hn
    · omega
    · exact h3 n hn
end L60

/-! text G4_60 -/
namespace L60
open PySem L2 PySem.Spec PyProof.Rows Zl
theorem sp_integer {v : Int} {M : Mem} : Wp (m_is_integer [.int v] M) fun d M' => d = .bl true ∧ M' = M := by
  refine wp_fn rfl [some (.int v)] rfl ?_
  unfold b_is_integer
  simp_wf
  refine kc_of (c := true) rfl ?_
  simp_wf
  exact ⟨rfl, rfl⟩
theorem sp_between {v a b : Int} {M : Mem} (h1 : a ≤ v) (h2 : v ≤ b) : Wp (m_is_between [.int v, .int a, .int b] M) fun d M' => d = .bl true ∧ M' = M := by
  refine wp_fn rfl [some (.int v), some (.int a), some (.int b)] rfl ?_
  unfold b_is_between
  simp_wf
  refine sp_integer.go fun d M' ⟨e1, e2⟩ => ?_
  subst e1 e2
  simp_wf
  refine kc_of (decide_eq_true h1) ?_
  simp_wf
  exact ⟨by rw [decide_eq_true h2], rfl⟩
end L60

/-! text A8_60 -/
namespace L60
open PySem L2 PySem.Spec PyProof.Rows Zl
theorem sp_row {l n : Nat} {r : Row} {M : Mem} (h : OkR l n r) (hl : l ≤ 100) : Wp (m_is_row [rowD r, .int (l : Nat), .int (n : Nat)] M) fun d M' => d = .bl true ∧ Kp NoW M M' := by
  obtain ⟨h1, h2, h3, h4⟩ := h
  unfold rowD
  refine wp_fn rfl [some (.tup [.int (r.v : Nat), .int (r.s : Nat), .tup (intsN r.hits)]), some (.int (l : Nat)), some (.int (n : Nat)), none] rfl ?_
  unfold b_is_row
  simp_wf
  refine ki_of (c := false) rfl ?_
  simp_wf
  refine ki_of (c := false) rfl ?_
  simp_wf
  refine (sp_between (by omega) (by omega)).go fun d M' ⟨e1, e2⟩ => ?_
  subst e1 e2
  simp_wf
  refine ki_of (c := false) rfl ?_
  simp_wf
  refine (sp_between (by omega) (by omega)).go fun d M' ⟨e1, e2⟩ => ?_
  subst e1 e2
  simp_wf
  refine ki_of (c := false) rfl ?_
  simp_wf
  refine ki_of (c := false) rfl ?_
  simp_wf
  refine ki_of (c := false) (by simp [intsN, h3]) ?_
  simp_wf
  refine wp_lcP (fun _ => .bl true) ?_
  simp_wf
  refine ⟨_, rfl, intsN r.hits, rfl, by simp [intsN, h3]; show _ ≤ 2 ^ 24; omega, fun _ _ _ _ => rfl, ?_, ?_⟩
  · intro x hx M1 k1
    obtain ⟨a, ha, rfl⟩ := List.mem_map.mp hx
    have := h4 a ha
    simp_wf
    refine (sp_between (by omega) (by omega)).go fun d M' ⟨e1, e2⟩ => ?_
    subst e1 e2
    exact ⟨rfl, .refl⟩
  · intro M1 k1 g1
    simp_wf
    refine wp_all g1 (bls_all (by simp)) ?_
    simp_wf
    refine ⟨?_, k1⟩
    simp
theorem sp_isPolicy {t : Tb} {M : Mem} (h : OkT t) : Wp (m_is_policy [tabD t] M) fun d M' => d = .bl true ∧ Kp NoW M M' := by
  obtain ⟨h1, h2, h3, h4, h5⟩ := h
  unfold tabD
  refine wp_fn rfl [some (.tup [.int (t.l : Nat), .tup (t.rows.map rowD)]), none, none, none] rfl ?_
  unfold b_is_policy c_MOST_LINES c_MOST_STATES
  simp_wf
  refine ki_of (c := false) rfl ?_
  simp_wf
  refine ki_of (c := false) rfl ?_
  simp_wf
  refine (sp_between (by omega) (by omega)).go fun d M' ⟨e1, e2⟩ => ?_
  subst e1 e2
  simp_wf
  refine ki_of (c := false) rfl ?_
  simp_wf
  refine ki_of (c := false) rfl ?_
  simp_wf
  refine kc_of (c := true) (decide_eq_true (by rw [List.length_map]; omega)) ?_
  simp_wf
  refine ki_of (c := false) (by rw [decide_eq_true (by rw [List.length_map]; omega)]; rfl) ?_
  simp_wf
  refine wp_lcP (fun _ => .bl true) ?_
  simp_wf
  refine ⟨_, rfl, t.rows.map rowD, rfl, by rw [List.length_map]; show _ ≤ 2 ^ 24; omega, fun _ _ _ _ => rfl, ?_, ?_⟩
  · intro x hx M1 k1
    obtain ⟨a, ha, rfl⟩ := List.mem_map.mp hx
    simp_wf
    have := h5 a ha
    rw [List.length_map]
    exact sp_row this (by omega)
  · intro M1 k1 g1
    simp_wf
    refine wp_all g1 (bls_all (by simp)) ?_
    simp_wf
    refine ⟨?_, k1⟩
    simp
end L60

/-! text D1_60 -/
namespace L60
open PySem L2 PySem.Spec PyProof.Rows Zl
/-! ## rules: dicts with nested keys, lists in step -/
theorem wq_dict1N {fk fv : FE} {env : En} {M : Mem} {q : QE} (h : kNew (.dct []) (fun n M0 => Wp (fk env M0) fun kd M1 => Wp (fv env M1) fun vd M2 => ∃ k, M2[n]? = some (.dct []) ∧ keyN kd = some k ∧ kWr n (.dcn (putN [] k kd vd)) (fun M' => q (.loc n) M') M2) M) : Wp (fDict1N fk fv env M) q := by
  have h' := h M.length (M ++ [.dct []]) rfl at_new (.app _) (by simp)
  unfold fDict1N
  refine wp_bnd (h'.go fun kd M1 w => wp_bnd (w.go ?_))
  rintro vd M2 ⟨k, h1, h2, h3⟩
  simp only [h1, h2]
  exact wp_ok (h3 _ (at_set h1) (.set fun _ => rfl) (by simp))
theorem wq_dict1K {fk fv : FE} {env : En} {M : Mem} {q : QE} (h : kNew (.dct []) (fun n M0 => Wp (fk env M0) fun kd M1 => Wp (fv env M1) fun vd M2 => ∃ k, M2[n]? = some (.dct []) ∧ keyD kd = some k ∧ kWr n (.dct (putDk [] k vd)) (fun M' => q (.loc n) M') M2) M) : Wp (fDict1K fk fv env M) q := by
  have h' := h M.length (M ++ [.dct []]) rfl at_new (.app _) (by simp)
  unfold fDict1K
  refine wp_bnd (h'.go fun kd M1 w => wp_bnd (w.go ?_))
  rintro vd M2 ⟨k, h1, h2, h3⟩
  simp only [h1, h2]
  exact wp_ok (h3 _ (at_set h1) (.set fun _ => rfl) (by simp))
theorem wp_inN {b : Bool} {d : Dv} {n : Nat} {kvs : List (NestedKey × Dv × Dv)} {k : NestedKey} {M : Mem} {q : QE} (hm : M[n]? = some (.dcn kvs)) (hk : keyN d = some k) (h : q (.bl (xor b (valN kvs k).isSome)) M) : Wp (inE b d (.loc n) M) q :=
  wp_ev (by unfold inE; simp only [hm, hk]) h
theorem wp_ixN {d v : Dv} {n : Nat} {kvs : List (NestedKey × Dv × Dv)} {k : NestedKey} {M : Mem} {q : QE} (hm : M[n]? = some (.dcn kvs)) (hk : keyN d = some k) (hv : valN kvs k = some v) (h : q v M) : Wp (ixE (.loc n) d M) q :=
  wp_ev (by unfold ixE; simp only [hm, hk, hv]) h
theorem k_setDn {i d : Dv} {n : Nat} {kvs : List (NestedKey × Dv × Dv)} {k : NestedKey} {M : Mem} {q : Mem → Prop} (hm : M[n]? = some (.dcn kvs)) (hk : keyN i = some k) (hl : kvs.length ≤ 1000000) (h : kWr n (.dcn (putN kvs k i d)) q M) : kSet (.loc n) i d q M :=
  ⟨_, by unfold setE; simp only [hm, hk, if_pos (size_lt (Nat.le_trans hl (by decide)))], h _ (at_set hm) (.set fun _ => rfl) (by simp)⟩
theorem keyD_tup {d : Dv} {k : NestedKey} (h : keyN d = some k) : keyD d = none := by
  cases d <;> first | rfl | cases h
theorem wp_in0 {b : Bool} {d : Dv} {n : Nat} {k : NestedKey} {M : Mem} {q : QE} (hm : M[n]? = some (.dct [])) (hk : keyN d = some k) (h : q (.bl (xor b false)) M) : Wp (inE b d (.loc n) M) q :=
  wp_ev (by unfold inE; simp only [hm, hk, keyD_tup hk]) (M' := M) (a := .bl (xor b false)) h
theorem k_set0 {i d : Dv} {n : Nat} {k : NestedKey} {M : Mem} {q : Mem → Prop} (hm : M[n]? = some (.dct [])) (hk : keyN i = some k) (h : kWr n (.dcn (putN [] k i d)) q M) : kSet (.loc n) i d q M :=
  ⟨_, by unfold setE; simp only [hm, hk, keyD_tup hk], h _ (at_set hm) (.set fun _ => rfl) (by simp)⟩
theorem wp_lenN {n : Nat} {kvs : List (NestedKey × Dv × Dv)} {M : Mem} {q : QE} (hm : M[n]? = some (.dcn kvs)) (h : q (.int (kvs.length : Nat)) M) : Wp (lenE [.loc n] M) q := wp_ev (by unfold lenE; simp only [hm]) h
theorem wp_lenK {n : Nat} {kvs : List (Key × Dv)} {M : Mem} {q : QE} (hm : M[n]? = some (.dct kvs)) (h : q (.int (kvs.length : Nat)) M) : Wp (lenE [.loc n] M) q := wp_ev (by unfold lenE; simp only [hm]) h
theorem wp_lenS {n : Nat} {xs : List Int} {M : Mem} {q : QE} (hm : M[n]? = some (.st xs)) (h : q (.int (xs.length : Nat)) M) : Wp (lenE [.loc n] M) q := wp_ev (by unfold lenE; simp only [hm]) h
theorem wp_inK {b : Bool} {d : Dv} {n : Nat} {kvs : List (Key × Dv)} {k : Key} {M : Mem} {q : QE} (hm : M[n]? = some (.dct kvs)) (hk : keyD d = some k) (h : q (.bl (xor b (valD kvs k).isSome)) M) : Wp (inE b d (.loc n) M) q :=
  wp_ev (by unfold inE; simp only [hm, hk]) h
theorem wp_ixK {d v : Dv} {n : Nat} {kvs : List (Key × Dv)} {k : Key} {M : Mem} {q : QE} (hm : M[n]? = some (.dct kvs)) (hk : keyD d = some k) (hv : valD kvs k = some v) (h : q v M) : Wp (ixE (.loc n) d M) q :=
  wp_ev (by unfold ixE; simp only [hm, hk, hv]) h
theorem ints_of : ∀ ns : List Nat, intsOf (intsN ns) = some (ns.map Int.ofNat)
  | [] => rfl
  | n :: ns => by
    show (match intsOf (intsN ns) with | some is => some ((n : Int) :: is) | none => none) = _
    rw [ints_of ns]; rfl
theorem wq_set {n : Nat} {ns : List Nat} {M : Mem} {q : QE} (hm : M[n]? = some (.lst (intsN ns))) (hl : ns.length < 4000) (h : kNew (.st (dedupI (ns.map Int.ofNat))) (fun n M2 => q (.loc n) M2) M) : Wp (setOfD [.loc n] M) q := by
  refine wp_ev (a := .loc M.length) (M' := M ++ [.st (dedupI (ns.map Int.ofNat))]) ?_ (h _ _ rfl at_new (.app _) (by simp))
  unfold setOfD
  simp only [hm, ints_of]
  rw [if_pos (by simpa using hl)]
/-! two lists in step -/
def stpZL (m n : Nat) : Stp := fun i M => match M[m]?, M[n]? with
  | some (.lst xs), some (.lst ys) => some (zipAt xs ys i)
  | _, _ => none
theorem k_zipL {m n : Nat} {xs ys : List Dv} {M : Mem} {qi : Src → Mem → Prop} (hm : M[m]? = some (.lst xs)) (hn : M[n]? = some (.lst ys)) (h : qi ⟨min xs.length ys.length, stpZL m n⟩ M) : kZip qi (.loc m) (.loc n) M :=
  ⟨⟨min xs.length ys.length, stpZL m n⟩, by unfold srcZ; simp only [hm, hn]; rfl, h⟩
theorem stpZL_at {m n i : Nat} {xs ys : List Dv} {M : Mem} (hm : M[m]? = some (.lst xs)) (hn : M[n]? = some (.lst ys)) : stpZL m n i M = some (zipAt xs ys i) := by unfold stpZL; rw [hm, hn]
theorem k_forZL {env : En} {M : Mem} {g : FG} {f : FS} {Q : QS} {m n : Nat} {xs ys : List Dv} {I : Nat → En → Mem → Prop} (hl : xs.length = ys.length) (hm : ∀ i env M, I i env M → M[m]? = some (.lst xs) ∧ M[n]? = some (.lst ys)) (h0 : I 0 env M)
    (h1 : ∀ i d e env M, xs[i]? = some d → ys[i]? = some e → I i env M → Wp (g (.pr [d, e]) env M) fun e1 M1 => Wp (f e1 M1) (kLoop (I (i + 1)) Q)) (h2 : ∀ env M, I xs.length env M → Q (.nx env) M) : kFor I g f env Q ⟨min xs.length ys.length, stpZL m n⟩ M := by
  have e0 : min xs.length ys.length = xs.length := by omega
  refine ⟨h0, fun i env M hi hh => ?_, fun env M hh => ?_⟩
  · have hi' : i < xs.length := by have : i < min xs.length ys.length := hi; omega
    obtain ⟨a, b⟩ := hm i env M hh
    refine ⟨_, (stpZL_at a b).trans (congrArg some (zip_at (List.getElem?_eq_getElem hi') (List.getElem?_eq_getElem (by omega)))), h1 i _ _ env M (List.getElem?_eq_getElem hi') (List.getElem?_eq_getElem (by omega)) hh⟩
  · obtain ⟨a, b⟩ := hm _ env M hh
    exact ⟨(stpZL_at a b).trans (congrArg some zip_end), h2 env M (by rw [← e0]; exact hh)⟩
/-! ## numbering -/
section
variable {α : Type} [DecidableEq α]
def ixOf (x : α) : List α → Nat
  | [] => 0
  | y :: ys => if y = x then 0 else ixOf x ys + 1
theorem ix_new {x : α} : ∀ {xs : List α}, x ∉ xs → ixOf x (xs ++ [x]) = xs.length
  | [], _ => by show (if x = x then 0 else _) = 0; rw [if_pos rfl]
  | y :: ys, h => by
    have h1 : ¬ y = x := fun e => h (by simp [e])
    show (if y = x then 0 else ixOf x (ys ++ [x]) + 1) = _
    rw [if_neg h1, ix_new fun m => h (List.mem_cons_of_mem _ m)]; rfl
def placeOf (o : List α) (s : α) : Nat × List α := if s ∈ o then (ixOf s o, o) else (o.length, o ++ [s])
def places : List α → List α → List Nat × List α
  | o, [] => ([], o)
  | o, s :: ss => ((placeOf o s).1 :: (places (placeOf o s).2 ss).1, (places (placeOf o s).2 ss).2)
theorem places_len : ∀ (o ss : List α), (places o ss).1.length = ss.length
  | _, [] => rfl
  | o, s :: ss => by show (places (placeOf o s).2 ss).1.length + 1 = _; rw [places_len]; rfl
theorem places_app : ∀ (o xs ys : List α), places o (xs ++ ys) = ((places o xs).1 ++ (places (places o xs).2 ys).1, (places (places o xs).2 ys).2)
  | _, [], _ => rfl
  | o, x :: xs, ys => by
    show ((placeOf o x).1 :: (places (placeOf o x).2 (xs ++ ys)).1, (places (placeOf o x).2 (xs ++ ys)).2) = _
    rw [places_app]; rfl
theorem place_len (o : List α) (s : α) : (placeOf o s).2.length ≤ o.length + 1 := by
  unfold placeOf
  split <;> simp
theorem places_more : ∀ (o ss : List α), (places o ss).2.length ≤ o.length + ss.length
  | _, [] => Nat.le_refl _
  | o, s :: ss => by
    have h1 := places_more (placeOf o s).2 ss
    have h2 := place_len o s
    show (places (placeOf o s).2 ss).2.length ≤ _
    rw [List.length_cons]; omega
variable (κ : α → NestedKey) (δ : α → Dv)
def enN (xs : List α) : List (NestedKey × Dv × Dv) := xs.zipIdx.map fun p => (κ p.1, δ p.1, .int (p.2 : Nat))
variable {κ δ}
theorem val_cons {kv : NestedKey × Dv × Dv} {kvs : List (NestedKey × Dv × Dv)} {k : NestedKey} : valN (kv :: kvs) k = if kv.1 = k then some kv.2.2 else valN kvs k := by
  unfold valN
  rw [List.find?_cons]
  by_cases h : kv.1 = k
  · rw [if_pos h]; simp [h]
  · rw [if_neg h]; simp [h]
theorem val_en (inj : ∀ a b, κ a = κ b → a = b) (x : α) : ∀ (xs : List α) (o : Nat), valN ((xs.zipIdx o).map fun p => (κ p.1, δ p.1, .int (p.2 : Nat))) (κ x) = if x ∈ xs then some (.int ((o + ixOf x xs : Nat) : Int)) else none
  | [], o => rfl
  | y :: ys, o => by
    rw [List.zipIdx_cons, List.map_cons, val_cons, val_en inj x ys (o + 1)]
    by_cases h : y = x
    · subst h
      rw [if_pos rfl, if_pos (List.mem_cons_self ..)]
      simp [ixOf]
    · rw [if_neg fun e => h (inj _ _ e)]
      have h' : ¬ x = y := fun e => h e.symm
      by_cases hm : x ∈ ys
      · rw [if_pos hm, if_pos (List.mem_cons_of_mem _ hm)]
        have hb : ixOf x (y :: ys) = ixOf x ys + 1 := by show (if y = x then 0 else _) = _; rw [if_neg h]
        rw [hb]
        congr 3
        omega
      · rw [if_neg hm, if_neg (by simp [h', hm])]
theorem val_enN (inj : ∀ a b, κ a = κ b → a = b) (x : α) (xs : List α) : valN (enN κ δ xs) (κ x) = if x ∈ xs then some (.int ((ixOf x xs : Nat) : Int)) else none := by
  have := val_en (δ := δ) inj x xs 0
  rw [Nat.zero_add] at this
  exact this
theorem put_enN (inj : ∀ a b, κ a = κ b → a = b) {x : α} {xs : List α} (h : x ∉ xs) : putN (enN κ δ xs) (κ x) (δ x) (.int (xs.length : Nat)) = enN κ δ (xs ++ [x]) := by
  unfold putN
  rw [val_enN inj, if_neg h]
  show enN κ δ xs ++ _ = _
  unfold enN
  rw [List.zipIdx_append, List.map_append]
  simp
theorem en_len {xs : List α} : (enN κ δ xs).length = xs.length := by simp [enN]
end
end L60

/-! text Fo1_60 -/
namespace L60
open PySem L2 PySem.Spec PyProof.Rows Zl
theorem takeS {α : Type} {xs : List α} {i : Nat} {x : α} (h : xs[i]? = some x) : xs.take (i + 1) = xs.take i ++ [x] := by rw [List.take_add_one, h]; rfl
/-! ## states with marks -/
abbrev Nd := Nat × List (Option Bool)
def bD : Option Bool → Dv
  | some b => .bl b
  | none => .non
def iD : Option Bool → Dv
  | some true => .int 1
  | some false => .int 0
  | none => .non
def mK : Option Bool → NestedKey
  | some true => .num 1
  | some false => .num 0
  | none => .none
def ndD (md : Option Bool → Dv) (n : Nd) : Dv := .tup [.int (n.1 : Nat), .tup (n.2.map md)]
def ndK (n : Nd) : NestedKey := .tup [.num (n.1 : Nat), .tup (n.2.map mK)]
theorem mK_inj : ∀ a b : Option Bool, mK a = mK b → a = b := by
  intro a b h
  rcases a with _ | a <;> rcases b with _ | b
  · rfl
  · cases b <;> cases h
  · cases a <;> cases h
  · cases a <;> cases b <;> first | rfl | (unfold mK at h; simp at h)
theorem mapInj {α β : Type} {f : α → β} (hf : ∀ a b, f a = f b → a = b) : ∀ {xs ys : List α}, xs.map f = ys.map f → xs = ys
  | [], [], _ => rfl
  | [], _ :: _, h => by cases h
  | _ :: _, [], h => by cases h
  | x :: xs, y :: ys, h => by
    simp only [List.map_cons, List.cons.injEq] at h
    rw [hf x y h.1, mapInj hf h.2]
theorem ndK_inj (a b : Nd) (h : ndK a = ndK b) : a = b := by
  unfold ndK at h
  simp only [NestedKey.tup.injEq, List.cons.injEq, and_true] at h
  refine Prod.ext ?_ (mapInj mK_inj h.2)
  have := h.1
  simp only [NestedKey.num.injEq] at this
  exact_mod_cast this
theorem nk_marks {md : Option Bool → Dv} (h : ∀ n m, nkN n (md m) = some (mK m)) {n : Nat} : ∀ ms : List (Option Bool), nkL (nkN n) (ms.map md) = some (ms.map mK)
  | [] => rfl
  | m :: ms => by
    show (match nkN n (md m) with | some k => (match nkL (nkN n) (ms.map md) with | some ks => some (k :: ks) | none => none) | none => none) = _
    rw [nk_marks h ms, h]; rfl
theorem key_nd {md : Option Bool → Dv} (h : ∀ n m, nkN n (md m) = some (mK m)) (x : Nd) : keyN (ndD md x) = some (ndK x) := by
  show (match nkL (nkN 7) [.int (x.1 : Nat), .tup (x.2.map md)] with | some ks => some (NestedKey.tup ks) | none => none) = _
  have h2 : nkN 7 (.tup (x.2.map md)) = some (.tup (x.2.map mK)) := by
    show (match nkL (nkN 6) (x.2.map md) with | some ks => some (NestedKey.tup ks) | none => none) = _
    rw [nk_marks h]
  unfold nkL nkL
  simp only [h2]
  rfl
theorem nk_bD (n : Nat) (m : Option Bool) : nkN n (bD m) = some (mK m) := by
  rcases m with _ | b
  · cases n <;> rfl
  · cases b <;> cases n <;> rfl
theorem nk_iD (n : Nat) (m : Option Bool) : nkN n (iD m) = some (mK m) := by
  rcases m with _ | b
  · cases n <;> rfl
  · cases b <;> cases n <;> rfl
def FB : KF Nd := ⟨ndK, ndD bD, key_nd nk_bD, ndK_inj⟩
def FJ : KF Nd := ⟨ndK, ndD iD, key_nd nk_iD, ndK_inj⟩
/-! ## moves -/
def rowA (t : Tb) (i : Nat) : Row := t.rows.getD i ⟨0, 0, []⟩
theorem rowA_at {t : Tb} {i : Nat} (h : i < t.rows.length) : t.rows[i]? = some (rowA t i) := by
  unfold rowA
  rw [List.getD_eq_getElem?_getD, List.getElem?_eq_getElem h]; rfl
def onL (t : Tb) (n : Nd) : List Nat := (List.range t.l).filter fun i => decide (n.2[i]? = some (some true))
def anyM (t : Tb) (n : Nd) : List (Nat × Nd) := (onL t n).map (fun i => (i, ((rowA t n.1).hits.getD i 0, n.2))) ++ [(t.l, ((rowA t n.1).s, n.2.set (rowA t n.1).v (some true)))]
def freM (t : Tb) (n : Nd) : List (Nat × Nd) := (onL t n).map (fun i => (i, ((rowA t n.1).hits.getD i 0, n.2.set i (some false)))) ++ [(t.l, ((rowA t n.1).s, n.2.set (rowA t n.1).v (some false)))]
def okN (t : Tb) (n : Nd) : Prop := n.1 < t.rows.length ∧ n.2.length = t.l
theorem okR_at {t : Tb} (ht : OkT t) {i : Nat} (h : i < t.rows.length) : OkR t.l t.rows.length (rowA t i) := ht.ok _ (List.mem_of_getElem? (rowA_at h))
theorem on_lt {t : Tb} {n : Nd} {i : Nat} (h : i ∈ onL t n) : i < t.l := List.mem_range.mp (List.mem_filter.mp h).1
theorem hit_lt {t : Tb} (ht : OkT t) {n : Nd} (hn : okN t n) {i : Nat} (h : i < t.l) : (rowA t n.1).hits.getD i 0 < t.rows.length := by
  obtain ⟨_, _, h3, h4⟩ := okR_at ht hn.1
  refine h4 _ ?_
  rw [List.getD_eq_getElem?_getD, List.getElem?_eq_getElem (by omega)]
  exact List.getElem_mem _
theorem any_ok {t : Tb} (ht : OkT t) {n : Nd} (hn : okN t n) {e : Nat × Nd} (he : e ∈ anyM t n) : okN t e.2 := by
  rcases List.mem_append.mp he with he | he
  · obtain ⟨i, hi, rfl⟩ := List.mem_map.mp he
    exact ⟨hit_lt ht hn (on_lt hi), hn.2⟩
  · rw [List.mem_singleton.mp he]
    exact ⟨(okR_at ht hn.1).2.1, by show (n.2.set _ _).length = _; rw [List.length_set, hn.2]⟩
theorem fre_ok {t : Tb} (ht : OkT t) {n : Nd} (hn : okN t n) {e : Nat × Nd} (he : e ∈ freM t n) : okN t e.2 := by
  rcases List.mem_append.mp he with he | he
  · obtain ⟨i, hi, rfl⟩ := List.mem_map.mp he
    exact ⟨hit_lt ht hn (on_lt hi), by show (n.2.set _ _).length = _; rw [List.length_set, hn.2]⟩
  · rw [List.mem_singleton.mp he]
    exact ⟨(okR_at ht hn.1).2.1, by show (n.2.set _ _).length = _; rw [List.length_set, hn.2]⟩
theorem on_len {t : Tb} {n : Nd} : (onL t n).length ≤ t.l := by
  have := List.length_filter_le (fun i => decide (n.2[i]? = some (some true))) (List.range t.l)
  rw [List.length_range] at this
  exact this
theorem any_len {t : Tb} {n : Nd} : (anyM t n).length ≤ t.l + 1 := by
  unfold anyM
  rw [List.length_append, List.length_map, List.length_singleton]
  have := on_len (t := t) (n := n)
  omega
theorem fre_len {t : Tb} {n : Nd} : (freM t n).length ≤ t.l + 1 := by
  unfold freM
  rw [List.length_append, List.length_map, List.length_singleton]
  have := on_len (t := t) (n := n)
  omega
def hasO (n : Nd) : Bool := decide (some true ∈ n.2)
def edO (t : Tb) (n : Nd) : List (Nat × Nd) := (freM t n).filter fun e => hasO e.2
def oldm (n : Nd) : Nd := (n.1, n.2.map fun m => if m = some true then some true else none)
def beg (t : Tb) : Nd := (0, List.replicate t.l (some false))
inductive RcS (t : Tb) : Nd → Prop
  | first : RcS t (beg t)
  | go {s : Nd} {e : Nat × Nd} : RcS t s → e ∈ anyM t s → RcS t e.2
def StP (t : Tb) (n : Nd) : Prop := ∃ s, RcS t s ∧ hasO s = true ∧ n = oldm s
theorem beg_ok {t : Tb} (ht : OkT t) : okN t (beg t) := ⟨by have := ht.r1; show 0 < t.rows.length; omega, by show (List.replicate t.l _).length = _; rw [List.length_replicate]⟩
theorem rcs_ok {t : Tb} (ht : OkT t) {n : Nd} (h : RcS t n) : okN t n := by
  induction h with
  | first => exact beg_ok ht
  | go _ he ih => exact any_ok ht ih he
theorem set_some {ms : List (Option Bool)} {i : Nat} {b : Bool} (h : ∀ m ∈ ms, m.isSome = true) : ∀ m ∈ ms.set i (some b), m.isSome = true := fun m hm => by
  rcases List.mem_or_eq_of_mem_set hm with q | rfl
  · exact h m q
  · rfl
theorem any_some {t : Tb} {n : Nd} (h : ∀ m ∈ n.2, m.isSome = true) {e : Nat × Nd} (he : e ∈ anyM t n) : ∀ m ∈ e.2.2, m.isSome = true := by
  rcases List.mem_append.mp he with he | he
  · obtain ⟨i, hi, rfl⟩ := List.mem_map.mp he
    exact h
  · rw [List.mem_singleton.mp he]
    exact set_some h
theorem rcs_some {t : Tb} {n : Nd} (h : RcS t n) : ∀ m ∈ n.2, m.isSome = true := by
  induction h with
  | first => intro m hm; rw [(List.mem_replicate.mp hm).2]; rfl
  | go _ he ih => exact any_some ih he
theorem old_ok {t : Tb} {n : Nd} (h : okN t n) : okN t (oldm n) := ⟨h.1, by show (n.2.map _).length = _; rw [List.length_map, h.2]⟩
/-! ## all of them -/
def marksA : Nat → List (List (Option Bool))
  | 0 => [[]]
  | l + 1 => (marksA l).flatMap fun ms => [some true :: ms, some false :: ms, none :: ms]
theorem marksA_mem : ∀ ms : List (Option Bool), ms ∈ marksA ms.length
  | [] => List.mem_singleton.mpr rfl
  | m :: ms => by
    show _ ∈ (marksA ms.length).flatMap _
    rw [List.mem_flatMap]
    refine ⟨ms, marksA_mem ms, ?_⟩
    rcases m with _ | b
    · simp
    · cases b <;> simp
theorem flat3 {α β : Type} (f : α → List β) {c : Nat} (h : ∀ x, (f x).length = c) : ∀ xs : List α, (xs.flatMap f).length = c * xs.length
  | [] => rfl
  | x :: xs => by rw [List.flatMap_cons, List.length_append, flat3 f h xs, h, List.length_cons, Nat.mul_succ]; omega
theorem marksA_len : ∀ l : Nat, (marksA l).length = 3 ^ l
  | 0 => rfl
  | l + 1 => by
    show ((marksA l).flatMap _).length = _
    rw [flat3 _ (c := 3) (fun _ => rfl), marksA_len l, Nat.pow_succ, Nat.mul_comm]
def allN (t : Tb) : List Nd := (List.range t.rows.length).flatMap fun s => (marksA t.l).map fun ms => (s, ms)
theorem allN_mem {t : Tb} {n : Nd} (h : okN t n) : n ∈ allN t := by
  unfold allN
  rw [List.mem_flatMap]
  exact ⟨n.1, List.mem_range.mpr h.1, List.mem_map.mpr ⟨n.2, by rw [← h.2]; exact marksA_mem _, rfl⟩⟩
theorem allN_len {t : Tb} : (allN t).length = 3 ^ t.l * t.rows.length := by
  unfold allN
  rw [flat3 _ (c := 3 ^ t.l) (fun s => by rw [List.length_map, marksA_len]), List.length_range]
theorem pow3 {l : Nat} (h : l ≤ 4) : 3 ^ l ≤ 81 := Nat.le_trans (Nat.pow_le_pow_right (by decide) h) (by decide)
theorem few_nd {t : Tb} (ht : OkT t) {xs : List Nd} (nd : xs.Nodup) (h : ∀ x ∈ xs, okN t x) : xs.length ≤ 3 ^ t.l * t.rows.length ∧ xs.length ≤ 5184 := by
  have a := len_sub nd (ys := allN t) fun x hx => allN_mem (h x hx)
  rw [allN_len] at a
  refine ⟨a, Nat.le_trans a (Nat.le_trans (Nat.mul_le_mul (pow3 ht.l4) ht.r64) (by decide))⟩
end L60

/-! text Fo2_60 -/
namespace L60
open PySem L2 PySem.Spec PyProof.Rows Zl
/-! ## the moves -/
theorem cutTo {xs : List Dv} {c : Nat} (h : c ≤ xs.length) : Zl.cutD xs none (some (c : Nat)) = xs.take c := Zl.cut_take h
theorem cutOf {xs : List Dv} {c : Nat} {k : Int} (hk : k = (c : Nat)) (h : c ≤ xs.length) : Zl.cutD xs (some k) none = xs.drop c := by
  subst hk
  unfold Zl.cutD
  have h1 : HT.sIx xs.length 0 (some (c : Nat)) = c := by
    rw [HT.sIx_nat]
    omega
  have h2 : HT.sIx xs.length xs.length none = xs.length := rfl
  rw [h1, h2, List.take_of_length_le (by rw [List.length_drop]; omega)]
theorem set_cut {α : Type} : ∀ {xs : List α} {i : Nat} (d : α), i < xs.length → xs.take i ++ (d :: xs.drop (i + 1)) = xs.set i d
  | x :: xs, 0, d, _ => rfl
  | x :: xs, i + 1, d, h => by
    show x :: (xs.take i ++ (d :: xs.drop (i + 1))) = x :: xs.set i d
    rw [set_cut d (by simpa using h)]
theorem sp_put {ds : List Dv} {i : Nat} {d : Dv} {M : Mem} (hi : i < ds.length) (hl : ds.length ≤ 100) : Wp (m_put_at [.tup ds, .int (i : Nat), d] M) fun r M' => r = .tup (ds.set i d) ∧ M = M' := by
  refine wp_fn rfl [some (.tup ds), some (.int (i : Nat)), some d] rfl ?_
  unfold b_put_at
  array_get_dec
  refine wq_starE ?_
  array_get_dec
  rw [cutTo (by omega)]
  refine ⟨_, .inl rfl, ?_⟩
  array_get_dec
  refine wq_starE ?_
  array_get_dec
  rw [cutOf (c := i + 1) (by omega) (by omega)]
  refine ⟨_, .inl rfl, ?_⟩
  array_get_dec
  have e : ds.take i ++ d :: (ds.drop (i + 1) ++ []) = ds.set i d := by rw [List.append_nil]; exact set_cut d hi
  rw [e]
  refine ⟨by rw [List.length_set]; exact Nat.le_trans hl (by decide), ?_⟩
  exact ⟨rfl, rfl⟩
theorem map_set {α β : Type} (f : α → β) : ∀ (xs : List α) (i : Nat) (a : α), (xs.map f).set i (f a) = (xs.set i a).map f
  | [], _, _ => rfl
  | x :: xs, 0, a => rfl
  | x :: xs, i + 1, a => by
    show f x :: (xs.map f).set i (f a) = f x :: (xs.set i a).map f
    rw [map_set f xs i a]
def pmD (md : Option Bool → Dv) (e : Nat × Nd) : Dv := .tup [.int (e.1 : Nat), ndD md e.2]
theorem sp_any {t : Tb} {n : Nd} {M : Mem} (ht : OkT t) (hn : okN t n) (hs : ∀ m ∈ n.2, m.isSome = true) : Wp (m_any_moves [tabD t, ndD bD n] M) fun d M' => ∃ p, d = .loc p ∧ M.length ≤ p ∧ M'[p]? = some (.lst ((anyM t n).map (pmD bD))) ∧ Kp NoW M M' := by
  have hr : (t.rows.map rowD)[n.1]? = some (.tup [.int ((rowA t n.1).v : Nat), .int ((rowA t n.1).s : Nat), .tup (intsN (rowA t n.1).hits)]) := by rw [List.getElem?_map, rowA_at hn.1]; rfl
  refine wp_fn rfl [some (.tup [.int (t.l : Nat), .tup (t.rows.map rowD)]), some (.tup [.int (n.1 : Nat), .tup (n.2.map bD)]), none, none, none, none, none, none, none] rfl ?_
  unfold b_any_moves
  array_get_dec
  have l4 := ht.l4
  refine wq_lcG (fun i => decide (n.2[i]? = some (some true))) (fun i => pmD bD (i, ((rowA t n.1).hits.getD i 0, n.2))) ?_
  array_get_dec
  refine ⟨by show t.l ≤ _; omega, fun j M' k' hj => ?_, fun M' k' => rng_end, fun p M1 e1 l1 k1 g1 => ?_⟩
  · have hj' : j < t.l := hj
    refine ⟨.int (j : Nat), rng_go hj, ?_⟩
    obtain ⟨m, hm⟩ : ∃ m, n.2[j]? = some m := ⟨_, List.getElem?_eq_getElem (by rw [hn.2]; exact hj')⟩
    have em : (n.2.map bD)[j]? = some (bD m) := by rw [List.getElem?_map, hm]; rfl
    have eh : (intsN (rowA t n.1).hits)[j]? = some (.int (((rowA t n.1).hits.getD j 0 : Nat) : Int)) := by
      unfold intsN
      rw [List.getElem?_map, List.getD_eq_getElem?_getD, List.getElem?_eq_getElem (by rw [(okR_at ht hn.1).2.2.1]; exact hj')]; rfl
    rw [hm]
    have sm := hs m (List.mem_of_getElem? hm)
    array_get_dec
    rcases m with _ | b
    · cases sm
    refine (show kB _ (.bl b) M' from ?_)
    array_get_dec
    refine ⟨by simp, .refl, fun _ => ?_⟩
    array_get_dec
    exact ⟨rfl, .refl⟩
  · have g1' : M1[p]? = some (.lst (((onL t n).map fun i => (i, ((rowA t n.1).hits.getD i 0, n.2))).map (pmD bD))) := by
      rw [g1, List.map_map]; rfl
    array_get_dec
    refine (sp_put (by rw [List.length_map, hn.2]; exact (okR_at ht hn.1).1) (by rw [List.length_map, hn.2]; omega)).go ?_
    rintro _ _ ⟨rfl, rfl⟩
    rw [show Dv.bl true = bD (some true) from rfl, map_set]
    array_get_dec
    rename_i u M2 e2 g2 k2 l2
    have ol := on_len (t := t) (n := n)
    refine wq_addL (k2.at g1' id) g2 (by simp only [List.length_map, List.length_singleton]; omega) ?_
    array_get_dec
    rename_i w M3 e3 g3 k3 l3
    refine ⟨w, rfl, by omega, ?_, (k1.trN k2).trN k3⟩
    rw [g3]
    unfold anyM
    rw [List.map_append]; rfl
theorem sp_fresh {t : Tb} {n : Nd} {M : Mem} (ht : OkT t) (hn : okN t n) : Wp (m_fresh_moves [tabD t, ndD bD n] M) fun d M' => ∃ p, d = .loc p ∧ M.length ≤ p ∧ M'[p]? = some (.lst ((freM t n).map (pmD bD))) ∧ Kp NoW M M' := by
  have hr : (t.rows.map rowD)[n.1]? = some (.tup [.int ((rowA t n.1).v : Nat), .int ((rowA t n.1).s : Nat), .tup (intsN (rowA t n.1).hits)]) := by rw [List.getElem?_map, rowA_at hn.1]; rfl
  refine wp_fn rfl [some (.tup [.int (t.l : Nat), .tup (t.rows.map rowD)]), some (.tup [.int (n.1 : Nat), .tup (n.2.map bD)]), none, none, none, none, none, none, none] rfl ?_
  unfold b_fresh_moves
  array_get_dec
  have l4 := ht.l4
  refine wq_lcG (fun i => decide (n.2[i]? = some (some true))) (fun i => pmD bD (i, ((rowA t n.1).hits.getD i 0, n.2.set i (some false)))) ?_
  array_get_dec
  refine ⟨by show t.l ≤ _; omega, fun j M' k' hj => ?_, fun M' k' => rng_end, fun p M1 e1 l1 k1 g1 => ?_⟩
  · have hj' : j < t.l := hj
    refine ⟨.int (j : Nat), rng_go hj, ?_⟩
    obtain ⟨m, hm⟩ : ∃ m, n.2[j]? = some m := ⟨_, List.getElem?_eq_getElem (by rw [hn.2]; exact hj')⟩
    have em : (n.2.map bD)[j]? = some (bD m) := by rw [List.getElem?_map, hm]; rfl
    have eh : (intsN (rowA t n.1).hits)[j]? = some (.int (((rowA t n.1).hits.getD j 0 : Nat) : Int)) := by
      unfold intsN
      rw [List.getElem?_map, List.getD_eq_getElem?_getD, List.getElem?_eq_getElem (by rw [(okR_at ht hn.1).2.2.1]; exact hj')]; rfl
    rw [hm]
    array_get_dec
    refine wp_ev (a := .bl (decide (m = some true))) (M' := M') (by rcases m with _ | _ | _ <;> rfl) ?_
    array_get_dec
    refine ⟨by simp, .refl, fun _ => ?_⟩
    array_get_dec
    refine (sp_put (by rw [List.length_map, hn.2]; exact hj') (by rw [List.length_map, hn.2]; omega)).go ?_
    rintro _ _ ⟨rfl, rfl⟩
    rw [show Dv.bl false = bD (some false) from rfl, map_set]
    array_get_dec
    exact ⟨rfl, .refl⟩
  · have g1' : M1[p]? = some (.lst (((onL t n).map fun i => (i, ((rowA t n.1).hits.getD i 0, n.2.set i (some false)))).map (pmD bD))) := by
      rw [g1, List.map_map]; rfl
    array_get_dec
    refine (sp_put (by rw [List.length_map, hn.2]; exact (okR_at ht hn.1).1) (by rw [List.length_map, hn.2]; omega)).go ?_
    rintro _ _ ⟨rfl, rfl⟩
    rw [show Dv.bl false = bD (some false) from rfl, map_set]
    array_get_dec
    rename_i u M2 e2 g2 k2 l2
    have ol := on_len (t := t) (n := n)
    refine wq_addL (k2.at g1' id) g2 (by simp only [List.length_map, List.length_singleton]; omega) ?_
    array_get_dec
    rename_i w M3 e3 g3 k3 l3
    refine ⟨w, rfl, by omega, ?_, (k1.trN k2).trN k3⟩
    rw [g3]
    unfold freM
    rw [List.map_append]; rfl
/-! ## marks -/
theorem flat_bD : ∀ ms : List (Option Bool), (ms.map bD).all flatD = true
  | [] => rfl
  | m :: ms => by rw [List.map_cons, List.all_cons, flat_bD ms]; rcases m with _ | _ <;> rfl
theorem any_bD : ∀ ms : List (Option Bool), ((ms.map bD).any fun z => eqF z (.bl true)) = decide (some true ∈ ms)
  | [] => rfl
  | m :: ms => by
    rw [List.map_cons, List.any_cons, any_bD ms]
    rcases m with _ | _ | _ <;> simp [bD, eqF]
theorem wp_hasO {n : Nd} {M : Mem} {q : QE} (c : q (.bl (hasO n)) M) : Wp (inE false (.bl true) (.tup (n.2.map bD)) M) q := by
  refine wp_inT (by unfold inE inD; simp only [flat_bD]; rfl) ?_
  rw [any_bD, Bool.false_xor]
  exact c
theorem sp_has {n : Nd} {M : Mem} : Wp (m_has_old [ndD bD n] M) fun d M' => d = .bl (hasO n) ∧ M = M' := by
  refine wp_fn rfl [some (.tup [.int (n.1 : Nat), .tup (n.2.map bD)])] rfl ?_
  unfold b_has_old
  array_get_dec
  refine wp_hasO ?_
  exact ⟨rfl, rfl⟩
theorem sp_old {n : Nd} {M : Mem} (hn : n.2.length ≤ 100) (hs : ∀ m ∈ n.2, m.isSome = true) : Wp (m_old_marks [ndD bD n] M) fun d M' => d = ndD bD (oldm n) ∧ Kp NoW M M' := by
  refine wp_fn rfl [some (.tup [.int (n.1 : Nat), .tup (n.2.map bD)]), none, none, none] rfl ?_
  unfold b_old_marks
  array_get_dec
  refine wq_map (fun x => match x with | .bl true => .bl true | _ => .non) ?_
  array_get_dec
  refine k_mapT (size_le (by rw [List.length_map]; omega)) ?_ ?_
  · intro x hx M1 k1
    obtain ⟨m, hm, rfl⟩ := List.mem_map.mp hx
    have sm := hs m hm
    rcases m with _ | b
    · cases sm
    array_get_dec
    cases b with
    | true =>
      array_get_dec
      refine (show kB _ (.bl true) M1 from ?_)
      array_get_dec
      exact ⟨rfl, .refl⟩
    | false =>
      array_get_dec
      refine (show kB _ (.bl false) M1 from ?_)
      array_get_dec
      exact ⟨rfl, .refl⟩
  · intro p M1 e1 l1 k1 g1
    array_get_dec
    refine ⟨?_, k1⟩
    unfold oldm ndD
    simp only
    congr 3
    rw [List.map_map, List.map_map]
    refine congrArg Dv.tup (List.map_congr_left fun m hm => ?_)
    have sm := hs m hm
    rcases m with _ | _ | _
    · cases sm
    · rfl
    · rfl
end L60

/-! text Fo3_60 -/
namespace L60
open PySem L2 PySem.Spec PyProof.Rows Zl
/-! ## filled_stages -/
/-- what is ahead of each one -/
def Par (t : Tb) (O : List Nd) (v : Nd → Dv) : Prop := ∀ (j : Nat) x, O[j]? = some x → (j = 0 ∧ v x = .non) ∨ ∃ (i : Nat) (y : Nd) (m : Nat), i < j ∧ O[i]? = some y ∧ (m, x) ∈ anyM t y ∧ v x = .tup [ndD bD y, .int (m : Nat)]
structure SI (t : Tb) (O : List Nd) (v : Nd → Dv) : Prop where
  nd : O.Nodup
  first : O[0]? = some (beg t)
  rch : ∀ x ∈ O, RcS t x
  par : Par t O v
theorem SI.few {t : Tb} {O : List Nd} {v : Nd → Dv} (ht : OkT t) (h : SI t O v) : O.length ≤ 5184 := (few_nd ht h.nd fun x hx => rcs_ok ht (h.rch x hx)).2
theorem SI.add {t : Tb} {O : List Nd} {v : Nd → Dv} {y x : Nd} {m i : Nat} (h : SI t O v) (hy : O[i]? = some y) (hm : (m, x) ∈ anyM t y) (hx : x ∉ O) : SI t (O ++ [x]) (setV v x (.tup [ndD bD y, .int (m : Nat)])) := by
  have il := (List.getElem?_eq_some_iff.mp hy).1
  have old : ∀ (j : Nat) z, j < O.length → (O ++ [x])[j]? = some z → O[j]? = some z := fun j z hj q => by rwa [List.getElem?_append_left hj] at q
  have pos : 0 < O.length := (List.getElem?_eq_some_iff.mp h.first).1
  refine ⟨?_, ?_, fun z hz => ?_, fun j z hz => ?_⟩
  · rw [List.nodup_append]
    exact ⟨h.nd, by simp, fun a ha b hb e => hx (by rw [← List.mem_singleton.mp hb, ← e]; exact ha)⟩
  · rw [List.getElem?_append_left pos]; exact h.first
  · rcases List.mem_append.mp hz with hz | hz
    · exact h.rch z hz
    · rw [List.mem_singleton.mp hz]
      exact .go (e := (m, x)) (h.rch y (List.mem_of_getElem? hy)) hm
  · by_cases hj : j < O.length
    · have q := old j z hj hz
      have ne : z ≠ x := fun e => hx (by rw [← e]; exact List.mem_of_getElem? q)
      rcases h.par j z q with ⟨a, b⟩ | ⟨i', y', m', a, b, c, d⟩
      · exact .inl ⟨a, by rw [setV_ne ne]; exact b⟩
      · exact .inr ⟨i', y', m', a, by rw [List.getElem?_append_left (by omega)]; exact b, c, by rw [setV_ne ne]; exact d⟩
    · have jl : j = O.length := by have := (List.getElem?_eq_some_iff.mp hz).1; rw [List.length_append, List.length_singleton] at this; omega
      subst jl
      have ez : z = x := by simpa using hz.symm
      subst ez
      exact .inr ⟨i, y, m, il, by rw [List.getElem?_append_left il]; exact hy, hm, setV_same⟩
theorem sp_filled {t : Tb} {M : Mem} (ht : OkT t) : Wp (m_filled_stages [tabD t] M) fun d M' => ∃ f O v, d = .loc f ∧ M.length ≤ f ∧ DA FB v f O M' ∧ SI t O v ∧ (∀ x, x ∈ O ↔ RcS t x) ∧ Kp NoW M M' := by
  refine wp_fn rfl [some (.tup [.int (t.l : Nat), .tup (t.rows.map rowD)]), none, none, none, none, none, none] rfl ?_
  unfold b_filled_stages
  array_get_dec
  have l4 := ht.l4
  refine wp_mulT (k := t.l) (by simp; omega) (by omega) ?_
  have rp : (List.replicate t.l [Dv.bl false]).flatten = (List.replicate t.l (some false)).map bD := by
    generalize t.l = k
    induction k with
    | zero => rfl
    | succ k ih => rw [List.replicate_succ, List.replicate_succ, List.flatten_cons, ih]; rfl
  rw [rp]
  array_get_dec
  refine wp_or1 ?_
  refine wq_dict1N ?_
  array_get_dec
  rename_i f M1 e1 g1 k1 l1
  refine ⟨_, g1, FB.key (beg t), ?_⟩
  array_get_dec
  rename_i M2 g2 k2 l2 q M3 e3 g3 k3 l3
  have d0 : DA FB (fun _ => .non) f [beg t] M3 := .inr (k3.at g2 id)
  have s0 : SI t [beg t] (fun _ => .non) := ⟨by simp, rfl, fun x hx => by rw [List.mem_singleton.mp hx]; exact .first, fun j x hx => by
    have : j = 0 := by have := (List.getElem?_eq_some_iff.mp hx).1; simpa using this
    exact .inl ⟨this, rfl⟩⟩
  have kk0 : Kp NoW M M3 := (k1.trans k2 fun m hm e => by have e' : m = f := e; omega).trN k3
  refine wp_whileI (fun m env M' => ∃ (x5 x6 : Option Dv) (O : List Nd) (k : Nat) (v : Nd → Dv), env = [some (tabD t), some (ndD bD (beg t)), some (.loc f), some (.loc q), some (.int (k : Nat)), x5, x6] ∧ DA FB v f O M' ∧ M'[q]? = some (.lst (O.map (ndD bD))) ∧ SI t O v ∧
    (∀ (j : Nat) x, j < k → O[j]? = some x → ∀ e ∈ anyM t x, e.2 ∈ O) ∧ k ≤ O.length ∧ m + k = 6000 ∧ Kp NoW M M') ?_ 1000000 6000 _ M3 (by omega)
    ⟨none, none, [beg t], 0, _, rfl, d0, g3, s0, fun j x hj => absurd hj (by omega), by simp, rfl, kk0⟩
  rintro m env M4 ⟨x5, x6, O, k, v, rfl, dA, qA, sA, cA, kl, mk, kA⟩
  have few := sA.few ht
  array_get_dec
  by_cases hl : k < O.length
  · rw [decide_eq_true (by rw [List.length_map]; exact_mod_cast hl)]
    refine (show Wp _ _ from ?_)
    have es : O[k]? = some O[k] := List.getElem?_eq_getElem hl
    generalize O[k] = s at es
    have es' : (O.map (ndD bD))[k]? = some (ndD bD s) := by rw [List.getElem?_map, es]; rfl
    have rs := sA.rch s (List.mem_of_getElem? es)
    have ro := rcs_ok ht rs
    have rsm := rcs_some rs
    array_get_dec
    refine wg_for ?_
    array_get_dec
    refine (sp_any ht ro rsm).go ?_
    rintro _ M5 ⟨p, rfl, pl, gp, k5⟩
    array_get_dec
    have dlt := dA.lt
    have qlt := lt_of qA
    have al := any_len (t := t) (n := s)
    refine ⟨fun i env M' => ∃ (y5 y6 : Option Dv) (O' : List Nd) (v' : Nd → Dv), env = [some (tabD t), some (ndD bD (beg t)), some (.loc f), some (.loc q), some (.int (k : Nat)), y5, y6] ∧ DA FB v' f O' M' ∧ M'[q]? = some (.lst (O'.map (ndD bD))) ∧ SI t O' v' ∧
      (∀ (j : Nat) x, O[j]? = some x → O'[j]? = some x) ∧ (∀ e ∈ (anyM t s).take i, e.2 ∈ O') ∧ M'[p]? = some (.lst ((anyM t s).map (pmD bD))) ∧ Kp (fun a => a = f ∨ a = q) M5 M', ?_⟩
    refine k_forL (fun i env M' hh => by obtain ⟨_, _, _, _, _, _, _, _, _, _, h, _⟩ := hh; exact h) ⟨x5, x6, O, v, rfl, dA.kp k5 id, k5.at qA id, sA, fun _ _ h => h, fun e h => by simp at h, gp, .refl⟩ ?_ ?_
    · rintro i d env M6 hd ⟨y5, y6, O', v', rfl, b1, b2, b3, b4, b5, b6, b7⟩
      have hi : i < (anyM t s).length := by have := (List.getElem?_eq_some_iff.mp hd).1; simpa using this
      have ei : (anyM t s)[i]? = some (anyM t s)[i] := List.getElem?_eq_getElem hi
      have ed : d = pmD bD (anyM t s)[i] := by rw [List.getElem?_map, ei] at hd; cases hd; rfl
      subst ed
      have hin := List.mem_of_getElem? ei
      rw [takeS ei]
      generalize (anyM t s)[i] = e at hin
      obtain ⟨m1, x⟩ := e
      have few' := b3.few ht
      have es2 : (O'.map (ndD bD))[k]? = some (ndD bD s) := by rw [List.getElem?_map, b4 k s es]; rfl
      rw [show pmD bD (m1, x) = Dv.tup [.int (m1 : Nat), ndD bD x] from rfl]
      array_get_dec
      refine wg_in b1 (FB.key x) ?_
      array_get_dec
      by_cases hx : x ∈ O'
      · refine ki_of (c := false) (by simp [hx]) ?_
        array_get_dec
        refine ⟨_, _, O', v', rfl, b1, b2, b3, b4, fun e he => ?_, b6, b7⟩
        rcases List.mem_append.mp he with he | he
        · exact b5 e he
        · rw [List.mem_singleton.mp he]; exact hx
      · refine ki_of (c := true) (by simp [hx]) ?_
        array_get_dec
        refine kg_set (F := FB) (x := x) b1 (by omega) fun M7 c7 k7 l7 => ?_
        rw [if_neg hx] at c7
        array_get_dec
        have q7 := k7.at b2 (by show ¬ q = f; omega)
        refine wq_append q7 (size_lt (by rw [List.length_map]; omega)) ?_
        array_get_dec
        rename_i M8 g8 k8 l8
        refine ⟨_, _, O' ++ [x], _, rfl, c7.kp k8 (by show ¬ f = q; omega), by rw [g8, List.map_append]; rfl, b3.add (b4 k s es) hin hx, fun j z hz => ?_, fun e he => ?_, k8.at (k7.at b6 (by show ¬ p = f; omega)) (by show ¬ p = q; omega), (b7.trans k7 fun a _ e => .inl e).trans k8 fun a _ e => .inr e⟩
        · have q := b4 j z hz
          rw [List.getElem?_append_left (List.getElem?_eq_some_iff.mp q).1]; exact q
        · rcases List.mem_append.mp he with he | he
          · exact List.mem_append_left _ (b5 e he)
          · rw [List.mem_singleton.mp he]; exact List.mem_append_right _ (List.mem_singleton.mpr rfl)
    · rintro env M6 ⟨y5, y6, O', v', rfl, b1, b2, b3, b4, b5, b6, b7⟩
      rw [List.length_map, List.take_length] at b5
      array_get_dec
      refine ⟨m - 1, by omega, y5, y6, O', k + 1, v', rfl, b1, b2, b3, fun j x hj hx e he => ?_, ?_, by omega, (kA.trN k5).trans b7 fun a ha e => by have e' : a = f ∨ a = q := e; omega⟩
      · by_cases hjk : j < k
        · have jl : j < O.length := by omega
          obtain ⟨z, hz⟩ : ∃ z, O[j]? = some z := ⟨_, List.getElem?_eq_getElem jl⟩
          have := b4 j z hz
          rw [hx] at this
          cases this
          obtain ⟨i', hi'⟩ := List.getElem?_of_mem (cA j x hjk hz e he)
          exact List.mem_of_getElem? (b4 i' _ hi')
        · have jk : j = k := by omega
          subst jk
          have := b4 j s es
          rw [hx] at this
          cases this
          exact b5 e he
      · have := (List.getElem?_eq_some_iff.mp (b4 k s es)).1
        omega
  · have ek : k = O.length := by omega
    subst ek
    rw [decide_eq_false (by rw [List.length_map]; omega)]
    refine (show kSeq _ _ _ _ from ?_)
    array_get_dec
    refine ⟨f, O, v, rfl, by omega, dA, sA, fun x => ⟨sA.rch x, fun r => ?_⟩, kA⟩
    induction r with
    | first => exact List.mem_of_getElem? sA.first
    | go _ he ih =>
      obtain ⟨j, hj⟩ := List.getElem?_of_mem ih
      exact cA j _ (List.getElem?_eq_some_iff.mp hj).1 hj _ he
end L60

/-! text Fo4_60 -/
namespace L60
open PySem L2 PySem.Spec PyProof.Rows Zl
/-! ## counting edges -/
/-- edges from x whose goals are not among these -/
def dg (t : Tb) (D : List Nd) (x : Nd) : Nat := (edO t x).countP fun e => !decide (e.2 ∈ D)
def ec (t : Tb) (x y : Nd) : Nat := (edO t x).countP fun e => decide (e.2 = y)
theorem dg_nil {t : Tb} {x : Nd} : dg t [] x = (edO t x).length := by
  unfold dg
  rw [List.countP_eq_length]
  intro e _
  simp
theorem dg_zero {t : Tb} {D : List Nd} {x : Nd} : dg t D x = 0 ↔ ∀ e ∈ edO t x, e.2 ∈ D := by
  unfold dg
  rw [List.countP_eq_zero]
  refine ⟨fun h e he => ?_, fun h e he => ?_⟩
  · have := h e he
    simpa using this
  · have := h e he
    simp [this]
theorem dg_step {t : Tb} {D : List Nd} {x y : Nd} (hy : y ∉ D) : dg t D x = dg t (D ++ [y]) x + ec t x y := by
  unfold dg ec
  generalize edO t x = es
  induction es with
  | nil => rfl
  | cons e es ih =>
    rw [List.countP_cons, List.countP_cons, List.countP_cons, ih]
    by_cases h1 : e.2 = y
    · have h2 : e.2 ∉ D := by rw [h1]; exact hy
      have h3 : e.2 ∈ D ++ [y] := by rw [h1]; simp
      simp [h1, h2, h3, hy]; omega
    · by_cases h2 : e.2 ∈ D
      · simp [h1, h2]
      · simp [h1, h2]; omega
/-- goals, each with what is ahead of it -/
def prs (t : Tb) (xs : List Nd) : List (Nd × Nd) := xs.flatMap fun x => (edO t x).map fun e => (e.2, x)
def inTo (ps : List (Nd × Nd)) (y : Nd) : List Nd := (ps.filter fun p => decide (p.1 = y)).map (·.2)
theorem inTo_app {ps qs : List (Nd × Nd)} {y : Nd} : inTo (ps ++ qs) y = inTo ps y ++ inTo qs y := by
  unfold inTo
  rw [List.filter_append, List.map_append]
theorem inTo_one {g x y : Nd} : inTo [(g, x)] y = if g = y then [x] else [] := by
  unfold inTo
  by_cases h : g = y
  · simp [h]
  · simp [h]
theorem inTo_edges {t : Tb} {x x' y : Nd} : ∀ es : List (Nat × Nd), (inTo (es.map fun e => (e.2, x')) y).countP (fun z => decide (z = x)) = if x' = x then es.countP fun e => decide (e.2 = y) else 0
  | [] => by simp [inTo]
  | e :: es => by
    have ih := inTo_edges (t := t) (x := x) (x' := x') (y := y) es
    have e1 : inTo ((e :: es).map fun e => (e.2, x')) y = inTo [(e.2, x')] y ++ inTo (es.map fun e => (e.2, x')) y := by
      rw [← inTo_app]; rfl
    rw [e1, List.countP_append, ih, inTo_one, List.countP_cons]
    by_cases h1 : e.2 = y
    · by_cases h2 : x' = x
      · simp [h1, h2]; omega
      · simp [h1, h2]
    · by_cases h2 : x' = x
      · simp [h1, h2]
      · simp [h1, h2]
theorem inTo_count {t : Tb} {x y : Nd} : ∀ {xs : List Nd}, xs.Nodup → (inTo (prs t xs) y).countP (fun z => decide (z = x)) = if x ∈ xs then ec t x y else 0
  | [], _ => by simp [inTo, prs]
  | x' :: xs, nd => by
    rw [List.nodup_cons] at nd
    have e1 : prs t (x' :: xs) = ((edO t x').map fun e => (e.2, x')) ++ prs t xs := by unfold prs; rw [List.flatMap_cons]
    rw [e1, inTo_app, List.countP_append, inTo_edges (t := t), inTo_count nd.2]
    by_cases h : x' = x
    · subst h
      rw [if_pos rfl, if_neg nd.1, if_pos (List.mem_cons_self ..)]; rfl
    · rw [if_neg h]
      by_cases h2 : x ∈ xs
      · rw [if_pos h2, if_pos (List.mem_cons_of_mem _ h2), Nat.zero_add]
      · rw [if_neg h2, if_neg fun q => (List.mem_cons.mp q).elim (fun z => h z.symm) h2]
theorem inTo_mem {t : Tb} {x y : Nd} {xs : List Nd} (h : x ∈ inTo (prs t xs) y) : x ∈ xs := by
  unfold inTo at h
  obtain ⟨p, hp, rfl⟩ := List.mem_map.mp h
  obtain ⟨z, hz, q⟩ := List.mem_flatMap.mp (List.mem_filter.mp hp).1
  obtain ⟨e, _, rfl⟩ := List.mem_map.mp q
  exact hz
theorem take_count {α : Type} [DecidableEq α] {xs : List α} {i : Nat} {x b : α} (h : xs[i]? = some b) : (xs.take (i + 1)).countP (fun z => decide (z = x)) = (xs.take i).countP (fun z => decide (z = x)) + if b = x then 1 else 0 := by
  rw [takeS h, List.countP_append]
  by_cases e : b = x <;> simp [e]
theorem take_le {α : Type} {p : α → Bool} {xs : List α} {i : Nat} : (xs.take i).countP p ≤ xs.countP p := by
  conv => rhs; rw [← List.take_append_drop i xs]
  rw [List.countP_append]; omega
/-- the greatest of numbers, as the program reckons it -/
theorem max_rk {t : Tb} {r : Nd → Nat} {x : Nd} : maxOfI ((edO t x).map fun e => ((1 + r e.2 : Nat) : Int)) 0 = ((rkOf (edO t) r x : Nat) : Int) := by
  unfold rkOf
  have key : ∀ (es : List (Nat × Nd)) (m : Nat), (es.map fun e => ((1 + r e.2 : Nat) : Int)).foldl max ((m : Nat) : Int) = ((es.foldl (fun m e => max m (1 + r e.2)) m : Nat) : Int) := by
    intro es
    induction es with
    | nil => intro m; rfl
    | cons e es ih =>
      intro m
      rw [List.map_cons, List.foldl_cons, List.foldl_cons, show max ((m : Nat) : Int) ((1 + r e.2 : Nat) : Int) = ((max m (1 + r e.2) : Nat) : Int) by omega, ih]
  cases h : edO t x with
  | nil => rfl
  | cons e es =>
    rw [List.map_cons, List.foldl_cons, show max 0 (1 + r e.2) = 1 + r e.2 by omega]
    exact key es (1 + r e.2)
theorem ed_len {t : Tb} {x : Nd} : (edO t x).length ≤ t.l + 1 := Nat.le_trans (List.length_filter_le _ _) fre_len
end L60

/-! text Fo5_60 -/
namespace L60
open PySem L2 PySem.Spec PyProof.Rows Zl
/-! ## rank_all -/
structure EdAt (t : Tb) (g : Nat) (le : Nd → Nat) (E : List Nd) (M : Mem) : Prop where
  dg : DA FB (fun x => .loc (le x)) g E M
  cl : ∀ x ∈ E, M[le x]? = some (.lst ((edO t x).map (pmD bD)))
abbrev memO (f S g r : Nat) : Ob := .ins 0 [("stages", .loc f), ("starts", .loc S), ("edges", .loc g), ("ranks", .loc r)]
theorem locF_at {k s n c : Nat} {x : Str} {fs : List (Str × Dv)} {env : En} {M : Mem} (h : env[k]? = some (some (.loc s))) (hm : M[s]? = some (.ins c fs)) (hx : fs.lookup x = some (.loc n)) : locF k x env M = some n := by
  unfold locF
  simp only [h, hm, hx]
/-- new lists, one for each -/
def NwAt (a : Nat) (la : Nd → Nat) (E : List Nd) (c : Nd → List Dv) (M : Mem) : Prop := (∀ x ∈ E, M[la x]? = some (.lst (c x)) ∧ a < la x) ∧ ∀ x ∈ E, ∀ y ∈ E, la x = la y → x = y
theorem sp_ahead {t : Tb} {E : List Nd} {le : Nd → Nat} {s f S g r : Nat} {M : Mem} {x1 x2 x3 x4 x5 x6 x7 x8 : Option Dv} {q : QE} (he : EdAt t g le E M) (nd : E.Nodup) (ne : E ≠ []) (few : E.length ≤ 5184) (hs : M[s]? = some (memO f S g r))
    (hq : ∀ a la M', a = M.length → DA FB (fun x => .loc (la x)) a E M' → NwAt a la E (fun _ => []) M' → Kp NoW M M' → q (.loc a) M') :
    Wp (lockEP (locF 0 "edges") (fCompD (fKeysN (fFld 0 "edges" (fV 0))) [3] (gN 3) fYes (fV 3) (fLst fNil)) [some (.loc s), x1, x2, x3, x4, x5, x6, x7, x8] M) q := by
  have sg : s ≠ g := fun e => by
    have := he.dg.full ne
    rw [← e, hs] at this
    cases this
  refine wg_lockE he.dg ne (locF_at rfl hs rfl) fun M1 la1 k1 l1 => ?_
  have hs1 := k1.at hs sg
  refine wg_compD (fun n i M' => ∃ la : Nd → Nat, DA FB (fun x => .loc (la x)) n (E.take i) M' ∧ NwAt n la (E.take i) (fun _ => []) M' ∧ LA FB (fun x => .loc (le x)) g E M' ∧ Kp NoW M1 M') ?_
  refine wg_keys (F := FB) (v := fun x => .loc (le x)) (xs := E) ?_
  array_get_dec
  refine ⟨g, rfl, la1, ?_⟩
  have zero : DA FB (fun x => .loc ((fun _ => 0 : Nd → Nat) x)) M1.length (E.take 0) (M1 ++ [Ob.dct []]) := .inl ⟨rfl, at_new⟩
  refine ⟨⟨fun _ => 0, zero, ⟨fun x hx => (by cases hx), fun x hx => (by cases hx)⟩, at_app la1, .app _⟩, ?_, ?_⟩
  · rintro i M2 hi ⟨la, d2, w2, l2, k2⟩
    have hi' : i < E.length := by have : i < (E.map FB.df).length := hi; simpa using this
    have ei : E[i]? = some E[i] := List.getElem?_eq_getElem hi'
    have hnew : E[i] ∉ E.take i := fun hm => by
      obtain ⟨j, hj⟩ := List.getElem?_of_mem hm
      have jl : j < i := by have := (List.getElem?_eq_some_iff.mp hj).1; rw [List.length_take] at this; omega
      rw [List.getElem?_take_of_lt jl, List.getElem?_eq_getElem (by omega)] at hj
      have := (List.getElem_inj nd).mp (Option.some.inj hj)
      omega
    rw [takeS ei]
    refine ⟨FB.df E[i], by show some ((E.map FB.df)[i]?) = _; rw [List.getElem?_map, ei]; rfl, ?_⟩
    generalize E[i] = x at hnew
    array_get_dec
    refine wp_ev (a := true) (M' := M2) rfl ⟨fun _ => ?_, fun h => (by cases h)⟩
    array_get_dec
    rename_i w M3 e3 g3 k3 l3
    obtain ⟨M4, e4, a4, k4, l4⟩ := setN_some (F := FB) (x := x) (d := .loc w) (d2.kp k3 id) (by rw [List.length_take]; omega)
    rw [if_neg hnew] at a4
    have dl := d2.lt
    rw [setVL] at a4
    refine ⟨M4, e4, setL la x w, a4, ⟨fun y hy => ?_, fun y hy z hz e => ?_⟩, ?_, ?_⟩
    · by_cases hyx : y = x
      · rw [hyx, setL_same]
        exact ⟨k4.at g3 (by show ¬ w = M1.length; omega), by omega⟩
      · rw [setL_ne hyx]
        have hy' : y ∈ E.take i := (List.mem_append.mp hy).resolve_right fun q => hyx (by simpa using q)
        obtain ⟨q1, q2⟩ := w2.1 y hy'
        exact ⟨k4.at (k3.at q1 id) (by show ¬ la y = M1.length; omega), q2⟩
    · have lt : ∀ u ∈ E.take i, la u < M2.length := fun u hu => lt_of (w2.1 u hu).1
      have inE : ∀ u, u ∈ E.take i ++ [x] → u ≠ x → u ∈ E.take i := fun u hu hne => (List.mem_append.mp hu).resolve_right fun q => hne (by simpa using q)
      by_cases hyx : y = x <;> by_cases hzx : z = x
      · rw [hyx, hzx]
      · rw [hyx, setL_same, setL_ne hzx] at e
        have := lt z (inE z hz hzx)
        omega
      · rw [hzx, setL_same, setL_ne hyx] at e
        have := lt y (inE y hy hyx)
        omega
      · rw [setL_ne hyx, setL_ne hzx] at e
        exact w2.2 y (inE y hy hyx) z (inE z hz hzx) e
    · exact k4.at (k3.at l2 id) (by have := lt_of la1; show ¬ g = M1.length; omega)
    · exact (k2.trN k3).trans k4 fun a ha e => by have e' : a = M1.length := e; omega
  · rintro M2 ⟨la, d2, w2, l2, k2⟩
    rw [List.length_map, List.take_length] at d2 w2
    refine ⟨by show some ((E.map FB.df)[(E.map FB.df).length]?) = _; rw [List.getElem?_eq_none (Nat.le_refl _)], l2, fun M3 d3 k3 l3 => ?_⟩
    have gl := lt_of la1
    refine hq M1.length la M3 l1 (d2.kp k3 (by show ¬ M1.length = g; omega)) ⟨fun y hy => ?_, w2.2⟩ ?_
    · obtain ⟨q1, q2⟩ := w2.1 y hy
      exact ⟨k3.at q1 (by show ¬ la y = g; omega), q2⟩
    · exact kp_same0 (n := g) ((k1.trN k2).trans k3 fun a _ h => h) (he.dg.full ne) (d3.full ne)
theorem sp_left {t : Tb} {E : List Nd} {le : Nd → Nat} {s f S g r : Nat} {M : Mem} {x1 x2 x3 x4 x5 x6 x7 x8 : Option Dv} {q : QE} (he : EdAt t g le E M) (nd : E.Nodup) (ne : E ≠ []) (few : E.length ≤ 5184) (hs : M[s]? = some (memO f S g r))
    (hq : ∀ a M', a = M.length → DA FB (fun x => .int ((edO t x).length : Nat)) a E M' → Kp NoW M M' → q (.loc a) M') :
    Wp (lockEP (locF 0 "edges") (fCompD (fKeysN (fFld 0 "edges" (fV 0))) [3] (gN 3) fYes (fV 3) (fC lenE (fCons (fO ixF (fFld 0 "edges" (fV 0)) (fV 3)) fNil))) [some (.loc s), x1, x2, x3, x4, x5, x6, x7, x8] M) q := by
  have sg : s ≠ g := fun e => by
    have := he.dg.full ne
    rw [← e, hs] at this
    cases this
  have leg : ∀ x ∈ E, le x ≠ g := fun x hx e => by
    have := he.dg.full ne
    rw [← e, he.cl x hx] at this
    cases this
  refine wg_lockE he.dg ne (locF_at rfl hs rfl) fun M1 la1 k1 l1 => ?_
  have hs1 := k1.at hs sg
  refine wg_compD (fun n i M' => DA FB (fun x => .int ((edO t x).length : Nat)) n (E.take i) M' ∧ LA FB (fun x => .loc (le x)) g E M' ∧ Kp NoW M1 M') ?_
  refine wg_keys (F := FB) (v := fun x => .loc (le x)) (xs := E) ?_
  array_get_dec
  refine ⟨g, rfl, la1, ?_⟩
  have gl := lt_of la1
  refine ⟨⟨.inl ⟨rfl, at_new⟩, at_app la1, .app _⟩, ?_, ?_⟩
  · rintro i M2 hi ⟨d2, l2, k2⟩
    have hi' : i < E.length := by have : i < (E.map FB.df).length := hi; simpa using this
    have ei : E[i]? = some E[i] := List.getElem?_eq_getElem hi'
    have hnew : E[i] ∉ E.take i := fun hm => by
      obtain ⟨j, hj⟩ := List.getElem?_of_mem hm
      have jl : j < i := by have := (List.getElem?_eq_some_iff.mp hj).1; rw [List.length_take] at this; omega
      rw [List.getElem?_take_of_lt jl, List.getElem?_eq_getElem (by omega)] at hj
      have := (List.getElem_inj nd).mp (Option.some.inj hj)
      omega
    have hin := List.mem_of_getElem? ei
    rw [takeS ei]
    refine ⟨FB.df E[i], by show some ((E.map FB.df)[i]?) = _; rw [List.getElem?_map, ei]; rfl, ?_⟩
    generalize E[i] = x at hnew hin
    have hs2 := k2.at hs1 id
    have hx2 := k2.at (k1.at (he.cl x hin) (leg x hin)) id
    array_get_dec
    refine wp_ev (a := true) (M' := M2) rfl ⟨fun _ => ?_, fun h => (by cases h)⟩
    array_get_dec
    refine wg_ixF (F := FB) (x := x) l2 (FB.key x) hin ?_
    array_get_dec
    rw [List.length_map]
    obtain ⟨M4, e4, a4, k4, l4⟩ := setN_some (F := FB) (x := x) (d := .int ((edO t x).length : Nat)) d2 (by rw [List.length_take]; omega)
    rw [if_neg hnew] at a4
    refine ⟨M4, e4, a4.congr fun y hy => ?_, k4.at l2 (by show ¬ g = M1.length; omega), k2.trans k4 fun a ha e => by have e' : a = M1.length := e; omega⟩
    unfold setV
    split
    · rename_i e; rw [e]
    · rfl
  · rintro M2 ⟨d2, l2, k2⟩
    rw [List.length_map, List.take_length] at d2
    refine ⟨by show some ((E.map FB.df)[(E.map FB.df).length]?) = _; rw [List.getElem?_eq_none (Nat.le_refl _)], l2, fun M3 d3 k3 l3 => ?_⟩
    exact hq M1.length M3 l1 (d2.kp k3 (by show ¬ M1.length = g; omega)) (kp_same0 (n := g) ((k1.trN k2).trans k3 fun a _ h => h) (he.dg.full ne) (d3.full ne))
end L60

/-! text Fo6_60 -/
namespace L60
open PySem L2 PySem.Spec PyProof.Rows Zl
/-! ## what is ahead of each one -/
theorem NwAt.app {a : Nat} {la : Nd → Nat} {E : List Nd} {c c' : Nd → List Dv} {M M' : Mem} {y : Nd} {d : Dv} (h : NwAt a la E c M) (hy : y ∈ E) (hm : M'[la y]? = some (.lst (c y ++ [d]))) (k : Kp (fun m => m = la y) M M') (e1 : c' y = c y ++ [d]) (e2 : ∀ z ∈ E, z ≠ y → c' z = c z) : NwAt a la E c' M' := by
  refine ⟨fun z hz => ?_, h.2⟩
  by_cases e : z = y
  · rw [e, e1]; exact ⟨hm, (h.1 y hy).2⟩
  · rw [e2 z hz e]
    exact ⟨k.at (h.1 z hz).1 fun q => e (h.2 z hz y hy q), (h.1 z hz).2⟩
theorem NwAt.kp {W : Nat → Prop} {a : Nat} {la : Nd → Nat} {E : List Nd} {c : Nd → List Dv} {M M' : Mem} (h : NwAt a la E c M) (k : Kp W M M') (w : ∀ x ∈ E, ¬ W (la x)) : NwAt a la E c M' := ⟨fun z hz => ⟨k.at (h.1 z hz).1 (w z hz), (h.1 z hz).2⟩, h.2⟩
theorem inTo_len {ps : List (Nd × Nd)} {y : Nd} : (inTo ps y).length ≤ ps.length := by
  unfold inTo
  rw [List.length_map]
  exact List.length_filter_le _ _
theorem prs_len {t : Tb} (h4 : t.l ≤ 4) : ∀ xs : List Nd, (prs t xs).length ≤ 5 * xs.length
  | [] => Nat.le_refl _
  | x :: xs => by
    have e1 : prs t (x :: xs) = ((edO t x).map fun e => (e.2, x)) ++ prs t xs := by unfold prs; rw [List.flatMap_cons]
    have := prs_len h4 xs
    have := ed_len (t := t) (x := x)
    rw [e1, List.length_append, List.length_map, List.length_cons]
    omega
theorem prs_app {t : Tb} {xs : List Nd} {x : Nd} : prs t (xs ++ [x]) = prs t xs ++ (edO t x).map fun e => (e.2, x) := by
  unfold prs
  rw [List.flatMap_append, List.flatMap_cons, List.flatMap_nil, List.append_nil]
theorem sp_fill {t : Tb} {E : List Nd} {le la : Nd → Nat} {s f S g r a : Nat} {M : Mem} {x2 x3 x4 x5 x6 x7 x8 : Option Dv} {Q : QS} (ht : OkT t) (he : EdAt t g le E M) (nd : E.Nodup) (ne : E ≠ []) (few : E.length ≤ 5184) (hs : M[s]? = some (memO f S g r)) (cl : ∀ x ∈ E, ∀ e ∈ edO t x, e.2 ∈ E)
    (ha : DA FB (fun x => .loc (la x)) a E M) (hw : NwAt a la E (fun _ => []) M) (hle : ∀ x ∈ E, le x < a)
    (hq : ∀ y3 y4 y5 M', NwAt a la E (fun y => (inTo (prs t E) y).map (ndD bD)) M' → Kp (fun n => ∃ x ∈ E, n = la x) M M' → Q (.nx [some (.loc s), some (.loc a), x2, y3, y4, y5, x6, x7, x8]) M') :
    Wp (lockSP (locF 0 "edges") (fFor (fKeysN (fFld 0 "edges" (fV 0))) (gN 3) (fFor (fSrc (fO ixF (fFld 0 "edges" (fV 0)) (fV 3))) (gOr (gT 2 (gsCons (gN 4) (gsCons (gN 5) gsNil))) (gL 2 (gsCons (gN 4) (gsCons (gN 5) gsNil)))) (fDrop ((fM "list" appendD (fO ixE (fV 1) (fV 5)) (fCons (fV 3) fNil)))))) [some (.loc s), some (.loc a), x2, x3, x4, x5, x6, x7, x8] M) Q := by
  have hg := he.dg.full ne
  have hA := ha.full ne
  have sg : s ≠ g := fun e => by rw [← e, hs] at hg; cases hg
  have leg : ∀ x ∈ E, le x ≠ g := fun x hx e => by rw [← e, he.cl x hx] at hg; cases hg
  have lag : ∀ x ∈ E, la x ≠ g := fun x hx e => by rw [← e, (hw.1 x hx).1] at hg; cases hg
  have las : ∀ x ∈ E, la x ≠ s := fun x hx e => by rw [← e, (hw.1 x hx).1] at hs; cases hs
  have laa : ∀ x ∈ E, la x ≠ a := fun x hx e => by have := (hw.1 x hx).2; omega
  have ag : a ≠ g := fun e => by
    obtain ⟨x, hx⟩ := List.exists_mem_of_ne_nil E ne
    rw [e] at hA
    rw [hA] at hg
    have h1 := Ob.dcn.inj (Option.some.inj hg)
    have h2 := congrArg (fun kvs => valN kvs (FB.kf x)) h1
    rw [val_enG, val_enG, if_pos hx, if_pos hx] at h2
    have h3 := Dv.loc.inj (Option.some.inj h2)
    have h4 := (hw.1 x hx).2
    have h5 := hle x hx
    omega
  refine wg_lockS he.dg ne (locF_at rfl hs rfl) fun M1 la1 k1 l1 => ?_
  have hs1 := k1.at hs sg
  have hw1 := hw.kp k1 lag
  have ha1 := ha.kp k1 ag
  refine wq_for (fun i env M' => ∃ (y3 y4 y5 : Option Dv), env = [some (.loc s), some (.loc a), x2, y3, y4, y5, x6, x7, x8] ∧ NwAt a la E (fun y => (inTo (prs t (E.take i)) y).map (ndD bD)) M' ∧ Kp (fun n => ∃ x ∈ E, n = la x) M1 M') ?_
  refine wg_keys (F := FB) (v := fun x => .loc (le x)) (xs := E) ?_
  array_get_dec
  refine ⟨g, rfl, la1, ?_⟩
  refine k_forT ⟨x3, x4, x5, rfl, hw1, .refl⟩ ?_ ?_
  · rintro i d env M2 hd ⟨y3, y4, y5, rfl, w2, k2⟩
    have hi : i < E.length := by have := (List.getElem?_eq_some_iff.mp hd).1; simpa using this
    have ei : E[i]? = some E[i] := List.getElem?_eq_getElem hi
    have ed : d = FB.df E[i] := by rw [List.getElem?_map, ei] at hd; cases hd; rfl
    subst ed
    have hin := List.mem_of_getElem? ei
    rw [takeS ei, prs_app]
    generalize E[i] = x at hin
    have no : ∀ {n : Nat}, (∀ z ∈ E, la z ≠ n) → ¬ ∃ z ∈ E, n = la z := fun h ⟨z, hz, e⟩ => h z hz e.symm
    have hs2 := k2.at hs1 (no las)
    have l2 : LA FB (fun x => .loc (le x)) g E M2 := k2.at la1 (no lag)
    have hx2 := k2.at (k1.at (he.cl x hin) (leg x hin)) (no fun z hz e => by have := (hw.1 z hz).2; have := hle x hin; omega)
    have pl := prs_len ht.l4 (E.take i)
    rw [List.length_take] at pl
    have el := ed_len (t := t) (x := x)
    have l4 := ht.l4
    array_get_dec
    refine wq_for (fun j env M' => ∃ (y4 y5 : Option Dv), env = [some (.loc s), some (.loc a), x2, some (FB.df x), y4, y5, x6, x7, x8] ∧ NwAt a la E (fun y => (inTo (prs t (E.take i) ++ ((edO t x).take j).map fun e => (e.2, x)) y).map (ndD bD)) M' ∧ Kp (fun n => ∃ x ∈ E, n = la x) M2 M') ?_
    array_get_dec
    refine wg_ixF (F := FB) (x := x) l2 (FB.key x) hin ?_
    array_get_dec
    refine k_forL (fun j env M' hh => by obtain ⟨_, _, _, _, h⟩ := hh; exact h.at hx2 (no fun z hz e => by have := (hw.1 z hz).2; have := hle x hin; omega)) ⟨y4, y5, rfl, by rw [List.take_zero, List.map_nil, List.append_nil]; exact w2, .refl⟩ ?_ ?_
    · rintro j d env M3 hd ⟨z4, z5, rfl, w3, k3⟩
      have hj : j < (edO t x).length := by have := (List.getElem?_eq_some_iff.mp hd).1; simpa using this
      have ej : (edO t x)[j]? = some (edO t x)[j] := List.getElem?_eq_getElem hj
      have ed : d = pmD bD (edO t x)[j] := by rw [List.getElem?_map, ej] at hd; cases hd; rfl
      subst ed
      have ein := List.mem_of_getElem? ej
      rw [takeS ej, List.map_append, ← List.append_assoc]
      generalize (edO t x)[j] = e at ein
      obtain ⟨m1, y⟩ := e
      have hy := cl x hin _ ein
      rw [show pmD bD (m1, y) = Dv.tup [.int (m1 : Nat), ndD bD y] from rfl]
      have a3 := (ha1.kp k2 (no laa)).kp k3 (no laa)
      array_get_dec
      have w3y : M3[la y]? = some (.lst ((inTo (prs t (E.take i) ++ ((edO t x).take j).map fun e => (e.2, x)) y).map (ndD bD))) := (w3.1 y hy).1
      refine wg_ix (F := FB) (x := y) a3 (FB.key y) hy ?_
      array_get_dec
      have il := inTo_len (ps := prs t (E.take i) ++ ((edO t x).take j).map fun e => (e.2, x)) (y := y)
      rw [List.length_append, List.length_map, List.length_take] at il
      refine wq_append w3y (size_lt (by rw [List.length_map]; omega)) ?_
      array_get_dec
      rename_i M4 g4 k4 l4'
      refine ⟨_, _, rfl, w3.app (d := ndD bD x) hy g4 k4 ?_ fun z hz hne => ?_, k3.trans k4 fun n _ e => ⟨y, hy, e⟩⟩
      · show (inTo (_ ++ [(y, x)]) y).map (ndD bD) = _
        rw [inTo_app, inTo_one, if_pos rfl, List.map_append]; rfl
      · show (inTo (_ ++ [(y, x)]) z).map (ndD bD) = _
        rw [inTo_app, inTo_one, if_neg fun e => hne e.symm, List.append_nil]
    · rintro env M3 ⟨z4, z5, rfl, w3, k3⟩
      rw [List.length_map, List.take_length] at w3
      exact ⟨_, _, _, rfl, w3, k2.tr k3⟩
  · rintro env M2 ⟨y3, y4, y5, rfl, w2, k2⟩
    rw [List.length_map, List.take_length] at w2
    have no : ∀ {n : Nat}, (∀ z ∈ E, la z ≠ n) → ¬ ∃ z ∈ E, n = la z := fun h ⟨z, hz, e⟩ => h z hz e.symm
    refine ⟨k2.at la1 (no lag), fun M3 d3 k3 l3 => ?_⟩
    refine hq y3 y4 y5 M3 (w2.kp k3 lag) (kp_same (n := g) ?_ hg (d3.full ne))
    exact (((Kp.refl (W := fun n => n = g ∨ ∃ x ∈ E, n = la x)).trans k1 fun n _ e => .inl e).trans k2 fun n _ e => .inr e).trans k3 fun n _ e => .inl e
end L60

/-! text Fo7_60 -/
namespace L60
open PySem L2 PySem.Spec PyProof.Rows Zl
theorem rangeMap {α β : Type} (xs : List α) (φ : α → β) (z : β) : ((List.range xs.length).filter fun _ => true).map (fun i => ((xs[i]?).map φ).getD z) = xs.map φ := by
  rw [List.filter_eq_self.mpr fun _ _ => rfl]
  refine List.ext_getElem? fun i => ?_
  rw [List.getElem?_map, List.getElem?_map]
  by_cases hi : i < xs.length
  · rw [List.getElem?_range hi, List.getElem?_eq_getElem hi]
    show some (((xs[i]?).map φ).getD z) = _
    rw [List.getElem?_eq_getElem hi]; rfl
  · rw [List.getElem?_eq_none (by simpa using hi), List.getElem?_eq_none (by simpa using hi)]; rfl
theorem rangeFilter {α : Type} (d : α) (p : α → Bool) (xs : List α) : ((List.range xs.length).filter fun i => p (xs.getD i d)).map (fun i => xs.getD i d) = xs.filter p := by
  have e : (List.range xs.length).map (fun i => xs.getD i d) = xs := by
    refine List.ext_getElem? fun i => ?_
    rw [List.getElem?_map]
    by_cases hi : i < xs.length
    · rw [List.getElem?_range hi]
      show some (xs.getD i d) = _
      rw [List.getD_eq_getElem?_getD, List.getElem?_eq_getElem hi]; rfl
    · rw [List.getElem?_eq_none (by simpa using hi), List.getElem?_eq_none (by simpa using hi)]; rfl
  conv => rhs; rw [← e]
  rw [List.filter_map]
  rfl
theorem ints_some {α : Type} (φ : α → Int) : ∀ es : List α, intsD (es.map fun e => Dv.int (φ e)) = some (es.map φ)
  | [] => rfl
  | e :: es => by
    show (match intsD (es.map fun e => Dv.int (φ e)) with | some is => some (φ e :: is) | none => none) = _
    rw [ints_some φ es]; rfl
/-- how far the ranking is -/
structure RI (t : Tb) (E L : List Nd) (k : Nat) (rk lf : Nd → Nat) : Prop where
  nd : L.Nodup
  sub : ∀ x ∈ L, x ∈ E
  le : k ≤ L.length
  left : ∀ x ∈ E, lf x = dg t (L.take k) x
  zero : ∀ x ∈ E, (x ∈ L ↔ lf x = 0)
  rank : ∀ x ∈ L.take k, Rk (edO t) x (rk x)
theorem sp_rankall {t : Tb} {E : List Nd} {le : Nd → Nat} {s f S g r : Nat} {M : Mem} (ht : OkT t) (he : EdAt t g le E M) (nd : E.Nodup) (ne : E ≠ []) (ok : ∀ x ∈ E, okN t x) (cl : ∀ x ∈ E, ∀ e ∈ edO t x, e.2 ∈ E) (hs : M[s]? = some (memO f S g r)) (hr : M[r]? = some (.dct [])) :
    Wp (m_Memory_rank_all [.loc s] M) fun d M' => ∃ (D : List Nd) (rk : Nd → Nat), DA FB (fun x => .int (rk x : Nat)) r D M' ∧ D.Nodup ∧ (∀ x ∈ D, x ∈ E ∧ Rk (edO t) x (rk x)) ∧ (∀ x ∈ E, x ∉ D → ∃ e ∈ edO t x, e.2 ∈ E ∧ e.2 ∉ D) ∧ Kp (fun n => n = r) M M' := by
  have few := (few_nd ht nd ok).2
  have hg := he.dg.full ne
  have sg : s ≠ g := fun e => by rw [← e, hs] at hg; cases hg
  have leg : ∀ x ∈ E, le x ≠ g := fun x hx e => by rw [← e, he.cl x hx] at hg; cases hg
  have ler : ∀ x ∈ E, le x ≠ r := fun x hx e => by rw [← e, he.cl x hx] at hr; cases hr
  have sr : s ≠ r := fun e => by rw [← e, hs] at hr; cases hr
  have gr : g ≠ r := fun e => by rw [← e, hg] at hr; cases hr
  have slt := lt_of hs
  have glt := lt_of hg
  have rlt := lt_of hr
  have lelt : ∀ x ∈ E, le x < M.length := fun x hx => lt_of (he.cl x hx)
  refine wp_fn rfl [some (.loc s), none, none, none, none, none, none, none, none] rfl ?_
  unfold b_Memory_rank_all
  array_get_dec
  refine wg_lockSet (sp_ahead he nd ne few hs fun a la M1 e1 a1 w1 k1 => ?_)
  array_get_dec
  have he1 : EdAt t g le E M1 := ⟨he.dg.kp k1 id, fun x hx => k1.at (he.cl x hx) id⟩
  have hs1 := k1.at hs id
  refine sp_left he1 nd ne few hs1 fun l M2 e2 d2 k2 => ?_
  array_get_dec
  have he2 : EdAt t g le E M2 := ⟨he1.dg.kp k2 id, fun x hx => k2.at (he1.cl x hx) id⟩
  have hs2 := k2.at hs1 id
  have w2 := w1.kp k2 fun _ _ => id
  have m01 := k1.1
  have m12 := k2.1
  refine sp_fill ht he2 nd ne few hs2 cl (a1.kp k2 id) w2 (fun x hx => by have := lelt x hx; omega) fun y3 y4 y5 M3 w3 k3 => ?_
  have law : ∀ x ∈ E, a < la x ∧ la x < M1.length := fun x hx => ⟨(w1.1 x hx).2, lt_of (w1.1 x hx).1⟩
  have no : ∀ {n : Nat}, n ≤ a → ¬ ∃ z ∈ E, n = la z := fun h ⟨z, hz, e⟩ => by have := (law z hz).1; omega
  have no2 : ¬ ∃ z ∈ E, l = la z := fun ⟨z, hz, e⟩ => by have := (law z hz).2; omega
  have he3 : EdAt t g le E M3 := ⟨he2.dg.kp k3 (no (by omega)), fun x hx => k3.at (he2.cl x hx) (no (by have := lelt x hx; omega))⟩
  have hs3 := k3.at hs2 (no (by omega))
  have d3 := d2.kp k3 no2
  have a3 := (a1.kp k2 id).kp k3 (no (by omega))
  have hr3 := k3.at (k2.at (k1.at hr id) id) (no (by omega))
  have kk3 : Kp NoW M M3 := (k1.trN k2).trans k3 fun n hn ⟨z, hz, e⟩ => by have := (law z hz).1; omega
  array_get_dec
  refine wg_lockSet ?_
  refine wg_lockE he3.dg ne (locF_at rfl hs3 rfl) fun M4 la4 k4 l4 => ?_
  have lg : l ≠ g := by omega
  have m23 := k3.1
  have l2lt := d2.lt
  have alt := a1.lt
  have hs4 := k4.at hs3 sg
  have d4 := d3.kp k4 lg
  refine wq_lcG (fun i => decide ((edO t (E.getD i (beg t))).length = 0)) (fun i => FB.df (E.getD i (beg t))) ?_
  refine wg_keys (F := FB) (v := fun x => .loc (le x)) (xs := E) ?_
  array_get_dec
  refine ⟨g, rfl, la4, ?_⟩
  refine ⟨by show (E.map FB.df).length ≤ _; rw [List.length_map]; omega, fun i M5 k5 hi => ?_, fun M5 k5 => ?_, fun o M5 e5 l5 k5 g5 => ?_⟩
  · have hi' : i < E.length := by have : i < (E.map FB.df).length := hi; simpa using this
    have ei : E[i]? = some E[i] := List.getElem?_eq_getElem hi'
    have hin := List.mem_of_getElem? ei
    have eg : E.getD i (beg t) = E[i] := by rw [List.getD_eq_getElem?_getD, ei]; rfl
    refine ⟨FB.df E[i], by show some ((E.map FB.df)[i]?) = _; rw [List.getElem?_map, ei]; rfl, ?_⟩
    rw [eg]
    generalize E[i] = x at hin
    array_get_dec
    refine wg_ix (F := FB) (x := x) (d4.kp k5 id) (FB.key x) hin ?_
    array_get_dec
    refine ⟨by by_cases h : (edO t x).length = 0 <;> simp [h], .refl, fun _ => ?_⟩
    array_get_dec
    exact ⟨rfl, .refl⟩
  · show some ((E.map FB.df)[(E.map FB.df).length]?) = _
    rw [List.getElem?_eq_none (Nat.le_refl _)]
  have g5' : M5[o]? = some (.lst ((E.filter fun x => decide ((edO t x).length = 0)).map (ndD bD))) := by
    rw [g5]
    show some (Ob.lst (((List.range (E.map FB.df).length).filter _).map _)) = _
    rw [List.length_map]
    have := rangeFilter (beg t) (fun x => decide ((edO t x).length = 0)) E
    rw [← this, List.map_map]; rfl
  have olt := lt_of g5'
  refine ⟨k5.at la4 id, fun M6 d6 k6 l6 => ?_⟩
  have k36 : Kp NoW M3 M6 := kp_same0 (n := g) ((k4.trN k5).trans k6 fun n _ e => e) (he3.dg.full ne) (d6.full ne)
  have g6 := k6.at g5' (by show ¬ o = g; omega)
  have he6 : EdAt t g le E M6 := ⟨he3.dg.kp k36 id, fun x hx => k36.at (he3.cl x hx) id⟩
  have hs6 := k36.at hs3 id
  have dl6 := d3.kp k36 id
  have da6 := a3.kp k36 id
  have w6 := w3.kp k36 fun _ _ => id
  have hr6 := k36.at hr3 id
  have kk6 := kk3.trN k36
  array_get_dec
  have ri0 : RI t E (E.filter fun x => decide ((edO t x).length = 0)) 0 (fun _ => 0) (fun x => (edO t x).length) :=
    ⟨nd.filter _, fun x hx => (List.mem_filter.mp hx).1, Nat.zero_le _, fun x _ => by rw [List.take_zero, dg_nil], fun x hx => by simp [List.mem_filter, hx], fun x hx => by simp at hx⟩
  refine wp_whileI (fun m env M' => ∃ (z3 z4 z5 z8 : Option Dv) (L : List Nd) (k : Nat) (rk lf : Nd → Nat), env = [some (.loc s), some (.loc a), some (.loc l), z3, z4, z5, some (.loc o), some (.int (k : Nat)), z8] ∧ M'[o]? = some (.lst (L.map (ndD bD))) ∧
    DA FB (fun x => .int (rk x : Nat)) r (L.take k) M' ∧ DA FB (fun x => .int (lf x : Nat)) l E M' ∧ RI t E L k rk lf ∧ m + k = 6000 ∧ Kp (fun n => n = r ∨ n = o ∨ n = l) M6 M') ?_ 1000000 6000 _ M6 (by omega)
    ⟨y3, y4, y5, none, _, 0, fun _ => 0, fun x => (edO t x).length, rfl, g6, .inl ⟨rfl, hr6⟩, dl6, ri0, rfl, .refl⟩
  rintro m env M7 ⟨z3, z4, z5, z8, L, k, rk, lf, rfl, q1, q2, q3, ri, mk, k7⟩
  have Lf := len_sub ri.nd ri.sub
  have m36 := k36.1
  have m4o : M4.length = M3.length := l4
  array_get_dec
  by_cases hl : k < L.length
  · rw [decide_eq_true (by rw [List.length_map]; exact_mod_cast hl)]
    refine (show Wp _ _ from ?_)
    have es : L[k]? = some L[k] := List.getElem?_eq_getElem hl
    have hnew : L[k] ∉ L.take k := fun hm => by
      obtain ⟨j, hj⟩ := List.getElem?_of_mem hm
      have jl : j < k := by have := (List.getElem?_eq_some_iff.mp hj).1; rw [List.length_take] at this; omega
      rw [List.getElem?_take_of_lt jl, List.getElem?_eq_getElem (by omega)] at hj
      have := (List.getElem_inj ri.nd).mp (Option.some.inj hj)
      omega
    have hmem := List.mem_of_getElem? es
    have es' : (L.map (ndD bD))[k]? = some (ndD bD L[k]) := by rw [List.getElem?_map, es]; rfl
    generalize L[k] = h at es es' hnew hmem
    have hE := ri.sub h hmem
    have lz : lf h = 0 := (ri.zero h hE).mp hmem
    have goals : ∀ e ∈ edO t h, e.2 ∈ L.take k := dg_zero.mp (by rw [← ri.left h hE]; exact lz)
    have hs7 := k7.at hs6 (by show ¬ (s = r ∨ s = o ∨ s = l); omega)
    have dg7 := he6.dg.kp k7 (by show ¬ (g = r ∨ g = o ∨ g = l); omega)
    have hx7 := k7.at (he6.cl h hE) (by have := lelt h hE; have := ler h hE; show ¬ (le h = r ∨ le h = o ∨ le h = l); omega)
    have rltM := q2.lt
    have olt7 := lt_of q1
    have llt7 := q3.lt
    array_get_dec
    refine wg_maxD ?_
    refine wq_lcG (fun _ => true) (fun i => (((edO t h)[i]?).map fun e => Dv.int ((1 + rk e.2 : Nat) : Int)).getD .non) ?_
    array_get_dec
    refine wg_ix (F := FB) (x := h) dg7 (FB.key h) hE ?_
    array_get_dec
    have el := ed_len (t := t) (x := h)
    have l4t := ht.l4
    refine ⟨by show ((edO t h).map (pmD bD)).length ≤ _; rw [List.length_map]; omega, fun i M8 k8 hi => ?_, fun M8 k8 => ?_, fun p M8 e8 l8 k8 g8 => ?_⟩
    · have hi' : i < (edO t h).length := by have : i < ((edO t h).map (pmD bD)).length := hi; simpa using this
      have ei : (edO t h)[i]? = some (edO t h)[i] := List.getElem?_eq_getElem hi'
      have ein := List.mem_of_getElem? ei
      refine ⟨pmD bD (edO t h)[i], by show stpL (le h) i M8 = _; rw [stpL_at (k8.at hx7 id), List.getElem?_map, ei]; rfl, ?_⟩
      rw [ei]
      generalize (edO t h)[i] = e at ein
      obtain ⟨m1, y⟩ := e
      rw [show pmD bD (m1, y) = Dv.tup [.int (m1 : Nat), ndD bD y] from rfl]
      have hs8 := k8.at hs7 id
      array_get_dec
      refine wp_ev (a := true) (M' := M8) rfl ⟨rfl, .refl, fun _ => ?_⟩
      array_get_dec
      refine wg_ix (F := FB) (x := y) (q2.kp k8 id) (FB.key y) (goals _ ein) ?_
      array_get_dec
      exact ⟨by show Dv.int (1 + _) = Dv.int _; congr 1, .refl⟩
    · show stpL (le h) ((edO t h).map (pmD bD)).length M8 = _
      rw [stpL_at (k8.at hx7 id), List.getElem?_eq_none (Nat.le_refl _)]
    have g8' : M8[p]? = some (.lst ((edO t h).map fun e => Dv.int ((1 + rk e.2 : Nat) : Int))) := by
      rw [g8]
      show some (Ob.lst (((List.range ((edO t h).map (pmD bD)).length).filter _).map _)) = _
      rw [List.length_map, rangeMap]
    refine ⟨p, _, _, rfl, g8', ints_some _ _, ?_⟩
    rw [max_rk]
    have hs8 := k8.at hs7 id
    array_get_dec
    refine kg_set (F := FB) (x := h) (q2.kp k8 id) (by rw [List.length_take]; omega) fun M9 d9 k9 l9 => ?_
    rw [if_neg hnew, setVI] at d9
    have lt9 := l9
    have m8 := k8.1
    have hL9 : M9[la h]? = some (.lst ((inTo (prs t E) h).map (ndD bD))) := k9.at (k8.at (k7.at (w6.1 h hE).1 (by have := law h hE; show ¬ (la h = r ∨ la h = o ∨ la h = l); omega)) id) (by have := law h hE; show ¬ la h = r; omega)
    have da9 : DA FB (fun x => .loc (la x)) a E M9 := ((da6.kp k7 (by show ¬ (a = r ∨ a = o ∨ a = l); omega)).kp k8 id).kp k9 (by show ¬ a = r; omega)
    have o9 := k9.at (k8.at q1 id) (by show ¬ o = r; omega)
    have l9' := (q3.kp k8 id).kp k9 (by show ¬ l = r; omega)
    have cnt : ∀ x ∈ E, (inTo (prs t E) h).countP (fun z => decide (z = x)) = ec t x h := fun x hx => by rw [inTo_count nd, if_pos hx]
    have lstep : ∀ x ∈ E, lf x = dg t (L.take k ++ [h]) x + ec t x h := fun x hx => by rw [ri.left x hx]; exact dg_step hnew
    have pl := prs_len ht.l4 E
    have il := inTo_len (ps := prs t E) (y := h)
    array_get_dec
    refine wq_for (fun i env M' => ∃ (z8 : Option Dv) (L' : List Nd) (lf' : Nd → Nat), env = [some (.loc s), some (.loc a), some (.loc l), some (ndD bD h), z4, z5, some (.loc o), some (.int (k : Nat)), z8] ∧ M'[o]? = some (.lst (L'.map (ndD bD))) ∧
      DA FB (fun x => .int (lf' x : Nat)) l E M' ∧ L'.Nodup ∧ (∀ x ∈ L', x ∈ E) ∧ (∀ (j : Nat) z, L[j]? = some z → L'[j]? = some z) ∧ (∀ x ∈ E, lf' x + ((inTo (prs t E) h).take i).countP (fun z => decide (z = x)) = lf x) ∧ (∀ x ∈ E, (x ∈ L' ↔ lf' x = 0)) ∧ Kp (fun n => n = o ∨ n = l) M9 M') ?_
    array_get_dec
    refine wg_ix (F := FB) (x := h) da9 (FB.key h) hE ?_
    array_get_dec
    refine k_forL (fun i env M' hh => by obtain ⟨_, _, _, _, _, _, _, _, _, _, _, kk⟩ := hh; exact kk.at hL9 (by have := law h hE; show ¬ (la h = o ∨ la h = l); omega)) ⟨z8, L, lf, rfl, o9, l9', ri.nd, ri.sub, fun _ _ h => h, fun x hx => by simp, ri.zero, .refl⟩ ?_ ?_
    · rintro i d env MA hd ⟨w8, L', lf', rfl, c1, c2, c3, c4, c5, c6, c7, c8⟩
      have hi : i < (inTo (prs t E) h).length := by have := (List.getElem?_eq_some_iff.mp hd).1; simpa using this
      have ei : (inTo (prs t E) h)[i]? = some (inTo (prs t E) h)[i] := List.getElem?_eq_getElem hi
      have ed : d = ndD bD (inTo (prs t E) h)[i] := by rw [List.getElem?_map, ei] at hd; cases hd; rfl
      subst ed
      have hb := inTo_mem (List.mem_of_getElem? ei)
      have tc := fun x => take_count (x := x) ei
      have tl := fun x => take_le (p := fun z => decide (z = x)) (xs := inTo (prs t E) h) (i := i + 1)
      generalize (inTo (prs t E) h)[i] = b at hb tc
      have c6b := c6 b hb
      have tcb := tc b
      rw [if_pos rfl] at tcb
      have tlb := tl b
      rw [cnt b hb] at tlb
      have lsb := lstep b hb
      have pos : 1 ≤ lf' b := by omega
      have L'f := len_sub c3 c4
      array_get_dec
      refine wg_aug (α := Nd) (F := FB) ?_
      array_get_dec
      refine ⟨l, E, b, ((lf' b : Nat) : Int), _, rfl, rfl, c2, hb, rfl, by omega, ?_⟩
      array_get_dec
      refine ⟨1, rfl, c2, fun MB d5 k5 l5 => ?_⟩
      rw [show ((lf' b : Nat) : Int) - 1 = ((lf' b - 1 : Nat) : Int) by omega, setVI] at d5
      array_get_dec
      refine wg_ix (F := FB) (x := b) d5 (FB.key b) hb ?_
      rw [setL_same]
      array_get_dec
      have c6' : ∀ x ∈ E, setL lf' b (lf' b - 1) x + ((inTo (prs t E) h).take (i + 1)).countP (fun z => decide (z = x)) = lf x := fun x hx => by
        have q := c6 x hx
        rw [tc x]
        by_cases e : x = b
        · rw [e] at q ⊢
          rw [setL_same, if_pos rfl]
          omega
        · rw [setL_ne e, if_neg fun z => e z.symm]
          omega
      have oB := k5.at c1 (by show ¬ o = l; omega)
      by_cases hz : lf' b - 1 = 0
      · refine ki_of (c := true) (by rw [hz]; rfl) ?_
        array_get_dec
        have hnb : b ∉ L' := fun q => by have := (c7 b hb).mp q; omega
        refine wq_append oB (size_lt (by rw [List.length_map]; omega)) ?_
        array_get_dec
        rename_i MC gC kC lC
        refine ⟨_, L' ++ [b], _, rfl, by rw [gC, List.map_append]; rfl, d5.kp kC (by show ¬ l = o; omega), ?_, fun x hx => ?_, fun j z hz => ?_, c6', fun x hx => ?_, (c8.trans k5 fun _ _ e => .inr e).trans kC fun _ _ e => .inl e⟩
        · rw [List.nodup_append]
          exact ⟨c3, by simp, fun a ha b' hb' e => hnb (by rw [← List.mem_singleton.mp hb', ← e]; exact ha)⟩
        · rcases List.mem_append.mp hx with q | q
          · exact c4 x q
          · rw [List.mem_singleton.mp q]; exact hb
        · have q := c5 j z hz
          rw [List.getElem?_append_left (List.getElem?_eq_some_iff.mp q).1]; exact q
        · rw [List.mem_append, List.mem_singleton]
          by_cases e : x = b
          · rw [e, setL_same]
            exact ⟨fun _ => hz, fun _ => .inr rfl⟩
          · rw [setL_ne e, ← c7 x hx]
            exact ⟨fun q => q.resolve_right e, .inl⟩
      · refine ki_of (c := false) (by rw [show ((lf' b - 1 : Nat) : Int) = (((lf' b - 2) + 1 : Nat) : Int) by omega]; simp; omega) ?_
        array_get_dec
        refine ⟨_, L', _, rfl, oB, d5, c3, c4, c5, c6', fun x hx => ?_, c8.trans k5 fun _ _ e => .inr e⟩
        by_cases e : x = b
        · rw [e, setL_same]
          exact ⟨fun q => by have := (c7 b hb).mp q; omega, fun q => absurd q hz⟩
        · rw [setL_ne e]; exact c7 x hx
    · rintro env MA ⟨w8, L', lf', rfl, c1, c2, c3, c4, c5, c6, c7, c8⟩
      rw [List.length_map, List.take_length] at c6
      have kl' : k < L'.length := (List.getElem?_eq_some_iff.mp (c5 k h es)).1
      have tk : L'.take (k + 1) = L.take k ++ [h] := by
        rw [takeS (c5 k h es)]
        congr 1
        refine List.ext_getElem? fun j => ?_
        by_cases hj : j < k
        · rw [List.getElem?_take_of_lt hj, List.getElem?_take_of_lt hj, List.getElem?_eq_getElem (show j < L.length by omega)]
          exact c5 j _ (List.getElem?_eq_getElem (by omega))
        · rw [List.getElem?_eq_none (by rw [List.length_take]; omega), List.getElem?_eq_none (by rw [List.length_take]; omega)]
      array_get_dec
      refine ⟨m - 1, by omega, _, _, _, w8, L', k + 1, setL rk h (rkOf (edO t) rk h), lf', rfl, c1, ?_, c2, ⟨c3, c4, kl', fun x hx => ?_, c7, fun x hx => ?_⟩, by omega, ?_⟩
      · rw [tk]
        exact d9.kp c8 (by show ¬ (r = o ∨ r = l); omega)
      · have q := c6 x hx
        rw [cnt x hx] at q
        have := lstep x hx
        rw [tk]; omega
      · rw [tk] at hx
        rcases List.mem_append.mp hx with q | q
        · rw [setL_ne fun e => hnew (by rw [← e]; exact q)]
          exact ri.rank x q
        · rw [List.mem_singleton.mp q, setL_same]
          exact rk_of fun e he => ri.rank e.2 (goals e he)
      · refine ((k7.trN k8).trans k9 fun _ _ e => .inl e).trans c8 fun n _ e => .inr e
  · have ek : k = L.length := by have := ri.le; omega
    subst ek
    rw [decide_eq_false (by rw [List.length_map]; omega)]
    refine (show kFn _ _ _ from ?_)
    rw [List.take_length] at q2
    refine ⟨L, rk, q2, ri.nd, fun x hx => ⟨ri.sub x hx, ri.rank x (by rw [List.take_length]; exact hx)⟩, fun x hx hn => ?_, ?_⟩
    · have z := ri.left x hx
      rw [List.take_length] at z
      have nz : dg t L x ≠ 0 := fun q => hn ((ri.zero x hx).mpr (by rw [z, q]))
      refine Classical.byContradiction fun no => nz (dg_zero.mpr fun e he => Classical.byContradiction fun q => no ⟨e, he, cl x hx e he, q⟩)
    · refine ((Kp.refl (W := fun n => n = r)).trN kk6).trans k7 fun n hn e => ?_
      have e' : n = r ∨ n = o ∨ n = l := e
      show n = r
      omega
end L60

/-! text Fo8_60 -/
namespace L60
open PySem L2 PySem.Spec PyProof.Rows Zl
/-! ## the starts -/
theorem oldm_inj {a b : Nd} (ha : ∀ m ∈ a.2, m.isSome = true) (hb : ∀ m ∈ b.2, m.isSome = true) (h : oldm a = oldm b) : a = b := by
  unfold oldm at h
  obtain ⟨h1, h2⟩ := Prod.mk.inj h
  refine Prod.ext h1 ?_
  have key : ∀ (xs ys : List (Option Bool)), (∀ m ∈ xs, m.isSome = true) → (∀ m ∈ ys, m.isSome = true) → xs.map (fun m => if m = some true then some true else none) = ys.map (fun m => if m = some true then some true else none) → xs = ys := by
    intro xs
    induction xs with
    | nil =>
      intro ys _ _ e
      cases ys with
      | nil => rfl
      | cons y ys => cases e
    | cons x xs ih =>
      intro ys hx hy e
      cases ys with
      | nil => cases e
      | cons y ys =>
        simp only [List.map_cons, List.cons.injEq] at e
        rw [ih ys (fun m hm => hx m (List.mem_cons_of_mem _ hm)) (fun m hm => hy m (List.mem_cons_of_mem _ hm)) e.2]
        have a := hx x (List.mem_cons_self ..)
        have b := hy y (List.mem_cons_self ..)
        have c := e.1
        rcases x with _ | _ | _ <;> rcases y with _ | _ | _ <;> simp_all
  exact key a.2 b.2 ha hb h2
def stsOf (O : List Nd) : List Nd := (O.filter hasO).map oldm
theorem stsOf_app {O : List Nd} {x : Nd} : stsOf (O ++ [x]) = stsOf O ++ if hasO x = true then [oldm x] else [] := by
  unfold stsOf
  rw [List.filter_append, List.map_append]
  cases h : hasO x with
  | true => simp [h]
  | false => simp [h]
theorem stsOf_len {O : List Nd} : (stsOf O).length ≤ O.length := by
  unfold stsOf
  rw [List.length_map]
  exact List.length_filter_le _ _
theorem stsOf_mem {O : List Nd} {n : Nd} : n ∈ stsOf O ↔ ∃ s ∈ O, hasO s = true ∧ n = oldm s := by
  unfold stsOf
  rw [List.mem_map]
  constructor
  · rintro ⟨s, hs, rfl⟩
    exact ⟨s, (List.mem_filter.mp hs).1, (List.mem_filter.mp hs).2, rfl⟩
  · rintro ⟨s, h1, h2, rfl⟩
    exact ⟨s, List.mem_filter.mpr ⟨h1, h2⟩, rfl⟩
theorem stsOf_new {O : List Nd} {x : Nd} (hO : ∀ s ∈ O, ∀ m ∈ s.2, m.isSome = true) (hx : ∀ m ∈ x.2, m.isSome = true) (h : x ∉ O) : oldm x ∉ stsOf O := fun q => by
  obtain ⟨s, h1, _, e⟩ := stsOf_mem.mp q
  exact h (by rw [oldm_inj hx (hO s h1) e]; exact h1)
theorem new_take {α : Type} {E : List α} (nd : E.Nodup) {i : Nat} {x : α} (ei : E[i]? = some x) : x ∉ E.take i := fun hm => by
  obtain ⟨j, hj⟩ := List.getElem?_of_mem hm
  have jl : j < i := by have := (List.getElem?_eq_some_iff.mp hj).1; rw [List.length_take] at this; omega
  rw [List.getElem?_take_of_lt jl] at hj
  obtain ⟨a1, a2⟩ := List.getElem?_eq_some_iff.mp hj
  obtain ⟨b1, b2⟩ := List.getElem?_eq_some_iff.mp ei
  have := (List.getElem_inj nd).mp (a2.trans b2.symm)
  omega
theorem sp_starts {t : Tb} {O : List Nd} {v : Nd → Dv} {s f : Nat} {M : Mem} {x1 x2 x3 x4 x5 x6 x7 x8 : Option Dv} {q : QE} (ht : OkT t) (hd : DA FB v f O M) (si : SI t O v) (hs : M[s]? = some (.ins 0 [("stages", .loc f)]))
    (hq : ∀ a vS M', a = M.length → DA FB vS a (stsOf O) M' → (∀ x ∈ O, hasO x = true → vS (oldm x) = ndD bD x) → Kp NoW M M' → q (.loc a) M') :
    Wp (lockEP (locF 0 "stages") (fCompD (fKeysN (fFld 0 "stages" (fV 0))) [5] (gN 5) (fB (fO (inE false) (fK (.bl true)) (fO ixE (fV 5) (fK (.int 1))))) (fCall 1 m_old_marks (fCons (fV 5) fNil)) (fV 5)) [some (.loc s), x1, x2, x3, x4, x5, x6, x7, x8] M) q := by
  have few := si.few ht
  have ne : O ≠ [] := fun e => by have := si.first; rw [e] at this; cases this
  have hf := hd.full ne
  have sf : s ≠ f := fun e => by rw [← e, hs] at hf; cases hf
  have sm : ∀ x ∈ O, ∀ m ∈ x.2, m.isSome = true := fun x hx => rcs_some (si.rch x hx)
  refine wg_lockE hd ne (locF_at rfl hs rfl) fun M1 la1 k1 l1 => ?_
  have hs1 := k1.at hs sf
  have flt := lt_of la1
  refine wg_compD (fun n i M' => ∃ vS : Nd → Dv, DA FB vS n (stsOf (O.take i)) M' ∧ (∀ x ∈ O.take i, hasO x = true → vS (oldm x) = ndD bD x) ∧ LA FB v f O M' ∧ Kp NoW M1 M') ?_
  refine wg_keys (F := FB) (v := v) (xs := O) ?_
  array_get_dec
  refine ⟨f, rfl, la1, ?_⟩
  refine ⟨⟨v, .inl ⟨rfl, at_new⟩, fun x hx => (by cases hx), at_app la1, .app _⟩, ?_, ?_⟩
  · rintro i M2 hi ⟨vS, d2, w2, l2, k2⟩
    have hi' : i < O.length := by have : i < (O.map FB.df).length := hi; simpa using this
    have ei : O[i]? = some O[i] := List.getElem?_eq_getElem hi'
    have hnew := new_take si.nd ei
    have hin := List.mem_of_getElem? ei
    rw [takeS ei, stsOf_app]
    refine ⟨FB.df O[i], by show some ((O.map FB.df)[i]?) = _; rw [List.getElem?_map, ei]; rfl, ?_⟩
    generalize O[i] = x at hnew hin
    have xl := (rcs_ok ht (si.rch x hin)).2
    have l4 := ht.l4
    rw [show FB.df x = Dv.tup [.int (x.1 : Nat), .tup (x.2.map bD)] from rfl]
    array_get_dec
    refine wp_hasO ?_
    array_get_dec
    refine ⟨fun hb => ?_, fun hb => ?_⟩
    · rw [if_pos hb]
      array_get_dec
      refine (sp_old (n := x) (by omega) (sm x hin)).go ?_
      rintro _ M3 ⟨rfl, k3⟩
      array_get_dec
      have nw := stsOf_new (O := O.take i) (fun s hs => sm s (List.mem_of_mem_take hs)) (sm x hin) hnew
      have sl := stsOf_len (O := O.take i)
      rw [List.length_take] at sl
      obtain ⟨M4, e4, a4, k4, l4'⟩ := setN_some (F := FB) (x := oldm x) (d := .tup [.int (x.1 : Nat), .tup (x.2.map bD)]) (d2.kp k3 id) (by omega)
      rw [if_neg nw] at a4
      have dl := d2.lt
      refine ⟨M4, e4, _, a4, fun y hy hb2 => ?_, k4.at (k3.at l2 id) (by show ¬ f = M1.length; omega), (k2.trN k3).trans k4 fun a ha e => by have e' : a = M1.length := e; omega⟩
      rcases List.mem_append.mp hy with hy | hy
      · have ne2 : oldm y ≠ oldm x := fun e => hnew (by rw [← oldm_inj (sm y (List.mem_of_mem_take hy)) (sm x hin) e]; exact hy)
        rw [setV_ne ne2]
        exact w2 y hy hb2
      · rw [List.mem_singleton.mp hy, setV_same]; rfl
    · rw [if_neg (by rw [hb]; decide), List.append_nil]
      refine ⟨vS, d2, fun y hy hb2 => ?_, l2, k2⟩
      rcases List.mem_append.mp hy with hy | hy
      · exact w2 y hy hb2
      · rw [List.mem_singleton.mp hy, hb] at hb2; cases hb2
  · rintro M2 ⟨vS, d2, w2, l2, k2⟩
    rw [List.length_map, List.take_length] at d2 w2
    refine ⟨by show some ((O.map FB.df)[(O.map FB.df).length]?) = _; rw [List.getElem?_eq_none (Nat.le_refl _)], l2, fun M3 d3 k3 l3 => ?_⟩
    exact hq M1.length vS M3 l1 (d2.kp k3 (by show ¬ M1.length = f; omega)) w2 (kp_same0 (n := f) ((k1.trN k2).trans k3 fun a _ h => h) hf (d3.full ne))
/-! ## what is old on the way -/
inductive RcO (t : Tb) : Nd → Prop
  | st {n : Nd} : StP t n → RcO t n
  | go {x : Nd} {e : Nat × Nd} : RcO t x → e ∈ edO t x → RcO t e.2
theorem ed_ok {t : Tb} (ht : OkT t) {n : Nd} (hn : okN t n) {e : Nat × Nd} (he : e ∈ edO t n) : okN t e.2 := fre_ok ht hn (List.mem_filter.mp he).1
theorem rco_ok {t : Tb} (ht : OkT t) {n : Nd} (h : RcO t n) : okN t n := by
  induction h with
  | st h => obtain ⟨s, h1, _, rfl⟩ := h; exact old_ok (rcs_ok ht h1)
  | go _ he ih => exact ed_ok ht ih he
theorem rco_pth {t : Tb} {n : Nd} (h : RcO t n) (hi : ∀ k, Pth (edO t) k n) : ∃ s, StP t s ∧ ∀ k, Pth (edO t) k s := by
  induction h with
  | st h => exact ⟨_, h, hi⟩
  | go _ he ih =>
    refine ih fun k => ?_
    cases k with
    | zero => trivial
    | succ k => exact ⟨_, he, hi k⟩
/-- there is a start -/
theorem first_start {t : Tb} (ht : OkT t) : ∃ s, RcS t s ∧ hasO s = true := by
  have h0 := okR_at ht (i := 0) ht.r1
  refine ⟨((rowA t 0).s, (List.replicate t.l (some false)).set (rowA t 0).v (some true)), .go (s := beg t) (e := (t.l, _)) .first (List.mem_append_right _ (List.mem_singleton.mpr rfl)), ?_⟩
  unfold hasO
  rw [decide_eq_true_iff]
  exact List.mem_of_getElem? (List.getElem?_set_self (by rw [List.length_replicate]; exact h0.1))
end L60

/-! text Fo9_60 -/
namespace L60
open PySem L2 PySem.Spec PyProof.Rows Zl
/-! ## class Memory -/
structure MemX (t : Tb) (s f S g r : Nat) (O E D : List Nd) (v vS : Nd → Dv) (le rk : Nd → Nat) (M : Mem) : Prop where
  hs : M[s]? = some (memO f S g r)
  stages : DA FB v f O M
  si : SI t O v
  all : ∀ x, x ∈ O ↔ RcS t x
  starts : DA FB vS S (stsOf O) M
  ahead : ∀ x ∈ O, hasO x = true → vS (oldm x) = ndD bD x
  edges : EdAt t g le E M
  nd : E.Nodup
  cl : ∀ x ∈ E, ∀ e ∈ edO t x, e.2 ∈ E
  sub : ∀ x ∈ stsOf O, x ∈ E
  rch : ∀ x ∈ E, RcO t x
  ranks : DA FB (fun x => .int (rk x : Nat)) r D M
  dnd : D.Nodup
  rank : ∀ x ∈ D, x ∈ E ∧ Rk (edO t) x (rk x)
  left : ∀ x ∈ E, x ∉ D → ∃ e ∈ edO t x, e.2 ∈ E ∧ e.2 ∉ D
theorem wq_extendG {n m : Nat} {xs ys : List Dv} {M : Mem} {q : QE} (hn : M[n]? = some (.lst xs)) (hm : M[m]? = some (.lst ys)) (h : xs.length + ys.length ≤ 16000000) (k : kWr n (.lst (xs ++ ys)) (fun M' => q .non M') M) : Wp (extendD (.loc n) [.loc m] M) q :=
  wp_extend hn hm (by omega) (k _ (at_set hn) (.set fun _ => rfl) (by simp))
theorem sts_st {t : Tb} {O : List Nd} (all : ∀ x, x ∈ O ↔ RcS t x) {n : Nd} : n ∈ stsOf O ↔ StP t n := by
  rw [stsOf_mem]
  exact ⟨fun ⟨s, h1, h2, h3⟩ => ⟨s, (all s).mp h1, h2, h3⟩, fun ⟨s, h1, h2, h3⟩ => ⟨s, (all s).mpr h1, h2, h3⟩⟩
theorem sp_init {t : Tb} {s : Nat} {M : Mem} (ht : OkT t) (hs : M[s]? = some (.ins 0 [])) :
    Wp (m_Memory_init [.loc s, tabD t] M) fun d M' => d = .non ∧ ∃ (f S g r : Nat) (O E D : List Nd) (v vS : Nd → Dv) (le rk : Nd → Nat), MemX t s f S g r O E D v vS le rk M' ∧ Kp (fun n => n = s) M M' := by
  have slt := lt_of hs
  refine wp_fn rfl [some (.loc s), some (tabD t), none, none, none, none, none, none, none] rfl ?_
  unfold b_Memory_init
  array_get_dec
  refine (sp_filled ht).go ?_
  rintro _ M1 ⟨f, O, v, rfl, fl, d1, si, all, k1⟩
  have hs1 := k1.at hs id
  have few := si.few ht
  array_get_dec
  rename_i M2 hs2 k2 l2
  replace hs2 : M2[s]? = some (.ins 0 [("stages", .loc f)]) := hs2
  have d2 := d1.kp k2 (by show ¬ f = s; omega)
  refine sp_starts ht d2 si hs2 fun S vS M3 eS d3 ah k3 => ?_
  have hs3 := k3.at hs2 id
  array_get_dec
  rename_i M4 hs4 k4 l4 g M5 e5 g5 k5 l5 M6 hs6 k6 l6
  replace hs6 : M6[s]? = some (.ins 0 [("stages", .loc f), ("starts", .loc S), ("edges", .loc g)]) := hs6
  have m1 := k1.1
  have m3 := k3.1
  have flt := d1.lt
  have Slt := d3.lt
  have d6 : DA FB vS S (stsOf O) M6 := ((d3.kp k4 (by show ¬ S = s; omega)).kp k5 id).kp k6 (by show ¬ S = s; omega)
  have st6 : DA FB v f O M6 := (((d2.kp k3 id).kp k4 (by show ¬ f = s; omega)).kp k5 id).kp k6 (by show ¬ f = s; omega)
  have g6 : M6[g]? = some (.dct []) := k6.at g5 (by show ¬ g = s; omega)
  refine wg_list (F := FB) d6 ?_
  array_get_dec
  rename_i q M7 e7 q7 k7 l7
  have hs7 := k7.at hs6 id
  have ed7 : EdAt t g (fun _ => 0) [] M7 := ⟨.inl ⟨rfl, k7.at g6 id⟩, fun x hx => (by cases hx)⟩
  have sl := stsOf_len (O := O)
  have glt := lt_of g6
  refine wp_whileI (fun m env M' => ∃ (y4 y6 y7 y8 : Option Dv) (E L : List Nd) (k : Nat) (le : Nd → Nat), env = [some (.loc s), some (tabD t), some (.loc q), some (.int (k : Nat)), y4, none, y6, y7, y8] ∧ M'[q]? = some (.lst (L.map (ndD bD))) ∧ EdAt t g le E M' ∧ (∀ x ∈ E, q < le x) ∧ E.Nodup ∧
    (∀ x ∈ L, RcO t x) ∧ (∀ x ∈ E, x ∈ L) ∧ (∀ (j : Nat) x, j < k → L[j]? = some x → x ∈ E) ∧ (∀ x ∈ E, ∀ e ∈ edO t x, e.2 ∈ L ∨ e.2 ∈ E) ∧ (∀ x ∈ stsOf O, x ∈ L) ∧ k ≤ L.length ∧ L.length ≤ (stsOf O).length + 5 * E.length ∧ m + k = 40000 ∧ Kp (fun n => n = g ∨ n = q) M7 M') ?_ 1000000 40000 _ M7 (by omega)
    ⟨none, none, none, none, [], stsOf O, 0, fun _ => 0, rfl, q7, ed7, fun x hx => (by cases hx), List.nodup_nil, fun x hx => .st ((sts_st all).mp hx), fun x hx => (by cases hx), fun j x hj => absurd hj (by omega), fun x hx => (by cases hx), fun x hx => hx, Nat.zero_le _, by simp, rfl, .refl⟩
  rintro m env M8 ⟨y4, y6, y7, y8, E, L, k, le, rfl, b1, b2, b3, b4, b5, b6, b7, b8, b9, kl, Ll, mk, k8⟩
  have Eok : ∀ x ∈ E, okN t x := fun x hx => rco_ok ht (b5 x (b6 x hx))
  have Ef := (few_nd ht b4 Eok).2
  have hs8 := k8.at hs7 (by show ¬ (s = g ∨ s = q); omega)
  have m8 := k8.1
  array_get_dec
  by_cases hl : k < L.length
  · rw [decide_eq_true (by rw [List.length_map]; exact_mod_cast hl)]
    refine (show Wp _ _ from ?_)
    have es : L[k]? = some L[k] := List.getElem?_eq_getElem hl
    have hmem := List.mem_of_getElem? es
    have es' : (L.map (ndD bD))[k]? = some (ndD bD L[k]) := by rw [List.getElem?_map, es]; rfl
    generalize L[k] = h at es es' hmem
    have hr := b5 h hmem
    have hok := rco_ok ht hr
    array_get_dec
    refine wg_in (F := FB) (x := h) b2.dg (FB.key h) ?_
    array_get_dec
    by_cases hE : h ∈ E
    · refine ki_of (c := false) (by simp [hE]) ?_
      array_get_dec
      refine ⟨m - 1, by omega, _, y6, y7, y8, E, L, k + 1, le, rfl, b1, b2, b3, b4, b5, b6, fun j x hj hx => ?_, b8, b9, hl, Ll, by omega, k8⟩
      by_cases hjk : j < k
      · exact b7 j x hjk hx
      · rw [show j = k by omega, es] at hx
        cases hx
        exact hE
    · refine ki_of (c := true) (by simp [hE]) ?_
      array_get_dec
      refine wq_lcG (fun i => hasO ((freM t h).getD i (0, beg t)).2) (fun i => pmD bD ((freM t h).getD i (0, beg t))) ?_
      array_get_dec
      refine (sp_fresh ht hok).go ?_
      rintro _ M9 ⟨p, rfl, pl, gp, k9⟩
      array_get_dec
      have fl2 := fre_len (t := t) (n := h)
      have l4' := ht.l4
      refine ⟨by show ((freM t h).map (pmD bD)).length ≤ _; rw [List.length_map]; omega, fun i MA kA hi => ?_, fun MA kA => ?_, fun w MA eA lA kA gA => ?_⟩
      · have hi' : i < (freM t h).length := by have : i < ((freM t h).map (pmD bD)).length := hi; simpa using this
        have ei : (freM t h)[i]? = some (freM t h)[i] := List.getElem?_eq_getElem hi'
        have eg : (freM t h).getD i (0, beg t) = (freM t h)[i] := by rw [List.getD_eq_getElem?_getD, ei]; rfl
        refine ⟨pmD bD (freM t h)[i], by show stpL p i MA = _; rw [stpL_at (kA.at gp id), List.getElem?_map, ei]; rfl, ?_⟩
        rw [eg]
        generalize (freM t h)[i] = e
        obtain ⟨m1, y⟩ := e
        rw [show pmD bD (m1, y) = Dv.tup [.int (m1 : Nat), ndD bD y] from rfl]
        array_get_dec
        refine sp_has.go ?_
        rintro _ _ ⟨rfl, rfl⟩
        array_get_dec
        refine ⟨rfl, .refl, fun _ => ?_⟩
        array_get_dec
        exact ⟨rfl, .refl⟩
      · show stpL p ((freM t h).map (pmD bD)).length MA = _
        rw [stpL_at (kA.at gp id), List.getElem?_eq_none (Nat.le_refl _)]
      have gA' : MA[w]? = some (.lst ((edO t h).map (pmD bD))) := by
        rw [gA]
        show some (Ob.lst (((List.range ((freM t h).map (pmD bD)).length).filter _).map _)) = _
        rw [List.length_map]
        have := rangeFilter (0, beg t) (fun e : Nat × Nd => hasO e.2) (freM t h)
        unfold edO
        rw [← this, List.map_map]; rfl
      have k8A : Kp NoW M8 MA := k9.trN kA
      have hsA := k8A.at hs8 id
      have mA := k9.1
      array_get_dec
      refine kg_set (F := FB) (x := h) (b2.dg.kp k8A id) (by omega) fun MB dB kB lB => ?_
      rw [if_neg hE, setVL] at dB
      have hsB := kB.at hsA (by show ¬ s = g; omega)
      have wB := kB.at gA' (by show ¬ w = g; omega)
      have qB := kB.at (k8A.at b1 id) (by show ¬ q = g; omega)
      have el := ed_len (t := t) (x := h)
      have qlt := lt_of b1
      array_get_dec
      refine wq_lcG (fun i => !decide (((edO t h).getD i (0, beg t)).2 ∈ E ++ [h])) (fun i => ndD bD ((edO t h).getD i (0, beg t)).2) ?_
      array_get_dec
      refine wg_ix (F := FB) (x := h) dB (FB.key h) (List.mem_append_right _ (List.mem_singleton.mpr rfl)) ?_
      rw [setL_same]
      array_get_dec
      refine ⟨by show ((edO t h).map (pmD bD)).length ≤ _; rw [List.length_map]; omega, fun i MC kC hi => ?_, fun MC kC => ?_, fun u MC eC lC kC gC => ?_⟩
      · have hi' : i < (edO t h).length := by have : i < ((edO t h).map (pmD bD)).length := hi; simpa using this
        have ei : (edO t h)[i]? = some (edO t h)[i] := List.getElem?_eq_getElem hi'
        have eg : (edO t h).getD i (0, beg t) = (edO t h)[i] := by rw [List.getD_eq_getElem?_getD, ei]; rfl
        refine ⟨pmD bD (edO t h)[i], by show stpL w i MC = _; rw [stpL_at (kC.at wB id), List.getElem?_map, ei]; rfl, ?_⟩
        rw [eg]
        generalize (edO t h)[i] = e
        obtain ⟨m1, y⟩ := e
        rw [show pmD bD (m1, y) = Dv.tup [.int (m1 : Nat), ndD bD y] from rfl]
        have hsC := kC.at hsB id
        array_get_dec
        refine wg_in (F := FB) (x := y) (dB.kp kC id) (FB.key y) ?_
        array_get_dec
        refine ⟨by simp, .refl, fun _ => ?_⟩
        array_get_dec
        exact ⟨rfl, .refl⟩
      · show stpL w ((edO t h).map (pmD bD)).length MC = _
        rw [stpL_at (kC.at wB id), List.getElem?_eq_none (Nat.le_refl _)]
      have gC' : MC[u]? = some (.lst ((((edO t h).filter fun e => !decide (e.2 ∈ E ++ [h])).map (·.2)).map (ndD bD))) := by
        rw [gC]
        show some (Ob.lst (((List.range ((edO t h).map (pmD bD)).length).filter _).map _)) = _
        rw [List.length_map]
        have := rangeFilter (0, beg t) (fun e : Nat × Nd => !decide (e.2 ∈ E ++ [h])) (edO t h)
        rw [← this, List.map_map, List.map_map]; rfl
      have fl3 : (((edO t h).filter fun e => !decide (e.2 ∈ E ++ [h])).map (·.2)).length ≤ 5 := by
        rw [List.length_map]
        have := List.length_filter_le (fun e => !decide (e.2 ∈ E ++ [h])) (edO t h)
        omega
      array_get_dec
      refine wq_extendG (kC.at qB id) gC' (by simp only [List.length_map] at fl3 ⊢; omega) ?_
      array_get_dec
      rename_i MD gD kD lD
      have mD := kC.1
      have mkA := kA.1
      refine ⟨m - 1, by omega, _, _, _, _, E ++ [h], L ++ ((edO t h).filter fun e => !decide (e.2 ∈ E ++ [h])).map (·.2), k + 1, setL le h w, rfl, by rw [gD, List.map_append], ⟨(dB.kp kC id).kp kD (by show ¬ g = q; omega), fun x hx => ?_⟩, fun x hx => ?_, ?_, fun x hx => ?_, fun x hx => ?_, fun j x hj hx => ?_, fun x hx e he => ?_, fun x hx => List.mem_append_left _ (b9 x hx), ?_, ?_, by omega, ?_⟩
      · by_cases e : x = h
        · rw [e, setL_same]
          exact kD.at (kC.at wB id) (by show ¬ w = q; omega)
        · have hx' : x ∈ E := (List.mem_append.mp hx).resolve_right fun z => e (by simpa using z)
          rw [setL_ne e]
          have lx := lt_of (b2.cl x hx')
          have gx := b3 x hx'
          exact kD.at (kC.at (kB.at (k8A.at (b2.cl x hx') id) (by show ¬ le x = g; omega)) id) (by show ¬ le x = q; omega)
      · by_cases e : x = h
        · rw [e, setL_same]; omega
        · rw [setL_ne e]
          exact b3 x ((List.mem_append.mp hx).resolve_right fun z => e (by simpa using z))
      · rw [List.nodup_append]
        exact ⟨b4, by simp, fun a ha b' hb' e => hE (by rw [← List.mem_singleton.mp hb', ← e]; exact ha)⟩
      · rcases List.mem_append.mp hx with z | z
        · exact b5 x z
        · obtain ⟨e, he, rfl⟩ := List.mem_map.mp z
          exact .go hr (List.mem_filter.mp he).1
      · refine List.mem_append_left _ ?_
        rcases List.mem_append.mp hx with z | z
        · exact b6 x z
        · rw [List.mem_singleton.mp z]; exact hmem
      · by_cases hjk : j < k
        · rw [List.getElem?_append_left (by omega)] at hx
          exact List.mem_append_left _ (b7 j x hjk hx)
        · rw [show j = k by omega, List.getElem?_append_left hl, es] at hx
          cases hx
          exact List.mem_append_right _ (List.mem_singleton.mpr rfl)
      · by_cases z : e.2 ∈ E ++ [h]
        · exact .inr z
        · refine .inl ?_
          rcases List.mem_append.mp hx with y | y
          · rcases b8 x y e he with y | y
            · exact List.mem_append_left _ y
            · exact absurd (List.mem_append_left _ y) z
          · rw [List.mem_singleton.mp y] at he
            exact List.mem_append_right _ (List.mem_map.mpr ⟨e, List.mem_filter.mpr ⟨he, by simp only [z, decide_false, Bool.not_false]⟩, rfl⟩)
      · rw [List.length_append]; omega
      · rw [List.length_append, List.length_append, List.length_singleton]; omega
      · exact ((k8.trN k8A).trans kB fun _ _ e => .inl e).trN kC |>.trans kD fun _ _ e => .inr e
  · have ek : k = L.length := by omega
    subst ek
    rw [decide_eq_false (by rw [List.length_map]; omega)]
    refine (show kSeq _ _ _ _ from ?_)
    have LE : ∀ x ∈ L, x ∈ E := fun x hx => by
      obtain ⟨j, hj⟩ := List.getElem?_of_mem hx
      exact b7 j x (List.getElem?_eq_some_iff.mp hj).1 hj
    have cl : ∀ x ∈ E, ∀ e ∈ edO t x, e.2 ∈ E := fun x hx e he => (b8 x hx e he).elim (LE _) id
    have ne : E ≠ [] := fun e => by
      obtain ⟨z, z1, z2⟩ := first_start ht
      have := LE _ (b9 _ ((sts_st all).mpr ⟨z, z1, z2, rfl⟩))
      rw [e] at this; cases this
    have dg8 := b2.dg.lt
    array_get_dec
    rename_i r M9 e9 r9 k9 l9 MA hsA kA lA
    replace hsA : MA[s]? = some (memO f S g r) := hsA
    have rA := kA.at r9 (by show ¬ r = s; omega)
    have k8A : Kp (fun n => n = s) M8 MA := ((Kp.refl (W := fun n => n = s)).trN k9).trans kA fun _ _ e => e
    have leg : ∀ x ∈ E, le x ≠ s := fun x hx e => by
      have := b2.cl x hx
      rw [e, hs8] at this
      cases this
    have edA : EdAt t g le E MA := ⟨b2.dg.kp k8A (by show ¬ g = s; omega), fun x hx => k8A.at (b2.cl x hx) (leg x hx)⟩
    refine (sp_rankall ht edA b4 ne Eok cl hsA rA).go ?_
    rintro _ MB ⟨D, rk, c1, c2, c3, c4, kB⟩
    have k7A : Kp (fun n => n = g ∨ n = q ∨ n = s) M7 MA := ((Kp.refl (W := fun n => n = g ∨ n = q ∨ n = s)).trans k8 fun n _ e => by
      have e' : n = g ∨ n = q := e
      show n = g ∨ n = q ∨ n = s
      omega).trans k8A fun n _ e => .inr (.inr e)
    have m7 := k7.1
    have st7 := st6.kp k7 id
    have sta7 := d6.kp k7 id
    array_get_dec
    have tr : ∀ {n : Nat}, n ≠ r → ¬ (fun a => a = r) n := fun h => h
    refine ⟨rfl, f, S, g, r, O, E, D, v, vS, le, rk, ⟨kB.at hsA (by show ¬ s = r; omega), (st7.kp k7A (by show ¬ (f = g ∨ f = q ∨ f = s); omega)).kp kB (by show ¬ f = r; omega), si, all, (sta7.kp k7A (by show ¬ (S = g ∨ S = q ∨ S = s); omega)).kp kB (by show ¬ S = r; omega), ah,
      ⟨edA.dg.kp kB (by show ¬ g = r; omega), fun x hx => kB.at (edA.cl x hx) (by have := lt_of (b2.cl x hx); show ¬ le x = r; omega)⟩, b4, cl, fun x hx => LE x (b9 x hx), fun x hx => b5 x (b6 x hx), c1, c2, c3, c4⟩, ?_⟩
    have q1 : Kp (fun n => n = s) M M7 := ((((((Kp.refl (W := fun n => n = s)).trN k1).trans k2 fun _ _ e => e).trN k3).trans k4 fun _ _ e => e).trN k5).trans k6 (fun _ _ e => e) |>.trN k7
    refine (q1.trans k7A fun n hn e => ?_).trans kB fun n hn e => ?_
    · have e' : n = g ∨ n = q ∨ n = s := e
      show n = s
      omega
    · have e' : n = r := e
      show n = s
      omega
end L60

/-! text Fo10_60 -/
namespace L60
open PySem L2 PySem.Spec PyProof.Rows Zl
/-! ## forgets -/
theorem sp_check {t : Tb} {M : Mem} (h : OkT t) : Wp (m_check_policy [tabD t] M) fun d M' => Kp NoW M M' := by
  refine wp_fn rfl [some (tabD t)] rfl ?_
  unfold b_check_policy
  array_get_dec
  refine (sp_isPolicy h).go ?_
  rintro _ M1 ⟨rfl, k1⟩
  array_get_dec
  first
  | exact k1
  | (refine ki_of (c := false) rfl ?_; array_get_dec; exact k1)
section
variable {t : Tb} {s f S g r : Nat} {O E D : List Nd} {v vS : Nd → Dv} {le rk : Nd → Nat} {M : Mem}
theorem MemX.sf (h : MemX t s f S g r O E D v vS le rk M) (ht : OkT t) : stsOf O ≠ [] := fun e => by
  obtain ⟨z, z1, z2⟩ := first_start ht
  have : oldm z ∈ stsOf O := (sts_st h.all).mpr ⟨z, z1, z2, rfl⟩
  rw [e] at this; cases this
theorem sp_endless (h : MemX t s f S g r O E D v vS le rk M) : Wp (m_Memory_is_endless [.loc s] M) fun d M' => d = .bl (decide (D.length < E.length)) ∧ M = M' := by
  have hs := h.hs
  refine wp_fn rfl [some (.loc s)] rfl ?_
  unfold b_Memory_is_endless
  array_get_dec
  refine wg_len (F := FB) h.ranks ?_
  array_get_dec
  refine wg_len (F := FB) h.edges.dg ?_
  array_get_dec
  refine ⟨?_, rfl⟩
  congr 1
  rw [Bool.eq_iff_iff, decide_eq_true_iff, decide_eq_true_iff]
  omega
/-- all are ranked, or some are left -/
theorem MemX.full (h : MemX t s f S g r O E D v vS le rk M) (n : ¬ D.length < E.length) : ∀ x ∈ E, x ∈ D := fun x hx => Classical.byContradiction fun q => by
  have := len_sub (xs := x :: D) (ys := E) (List.nodup_cons.mpr ⟨q, h.dnd⟩) fun y hy => by
    rcases List.mem_cons.mp hy with rfl | hy
    · exact hx
    · exact (h.rank y hy).1
  rw [List.length_cons] at this
  omega
theorem MemX.endless (h : MemX t s f S g r O E D v vS le rk M) (n : D.length < E.length) : FgS (edO t) (StP t) none := by
  obtain ⟨x, hx, hn⟩ : ∃ x ∈ E, x ∉ D := Classical.byContradiction fun q => by
    have := len_sub h.nd (ys := D) fun x hx => Classical.byContradiction fun z => q ⟨x, hx, z⟩
    omega
  have inf : ∀ k, Pth (edO t) k x := fun k => Zl.endless (U := fun y => y ∈ E ∧ y ∉ D) (fun y ⟨a, b⟩ => h.left y a b) k x ⟨hx, hn⟩
  obtain ⟨z, z1, z2⟩ := rco_pth (h.rch x hx) inf
  exact fun k => ⟨z, z1, z2 k⟩
theorem sp_longest (h : MemX t s f S g r O E D v vS le rk M) (ht : OkT t) (full : ∀ x ∈ E, x ∈ D) : Wp (m_Memory_longest [.loc s] M) fun d M' => ∃ x ∈ stsOf O, d = ndD bD x ∧ (∀ y ∈ stsOf O, rk y ≤ rk x) ∧ Kp NoW M M' := by
  have ne := h.sf ht
  have hS := h.starts.full ne
  have hs := h.hs
  have sS : s ≠ S := fun e => by rw [← e, hs] at hS; cases hS
  have hr0 := h.ranks
  have rS : r ≠ S := fun e => by
    obtain ⟨x, hx⟩ := List.exists_mem_of_ne_nil _ ne
    have hD := full x (h.sub x hx)
    have hr := hr0.full (List.ne_nil_of_mem hD)
    rw [e, hS] at hr
    have h1 := Ob.dcn.inj (Option.some.inj hr)
    have h2 := congrArg (fun kvs => valN kvs (FB.kf x)) h1
    rw [val_enG, val_enG, if_pos hx, if_pos hD] at h2
    obtain ⟨z, z1, z2, rfl⟩ := stsOf_mem.mp hx
    rw [h.ahead z z1 z2] at h2
    cases h2
  refine wp_fn rfl [some (.loc s), none, none] rfl ?_
  unfold b_Memory_longest
  array_get_dec
  refine wg_lockS (F := FB) h.starts ne (locF_at rfl hs rfl) fun M1 la1 k1 l1 => ?_
  have hs1 := k1.at hs sS
  have r1 := hr0.kp k1 rS
  refine wq_for (fun i env M' => (∃ (x2 : Option Dv), (i = 0 ∧ env = [some (.loc s), some .non, x2]) ∨ ∃ x ∈ (stsOf O).take i, env = [some (.loc s), some (ndD bD x), x2] ∧ ∀ y ∈ (stsOf O).take i, rk y ≤ rk x) ∧ M1 = M') ?_
  refine wg_keys (F := FB) (v := vS) (xs := stsOf O) ?_
  array_get_dec
  refine ⟨S, rfl, la1, ?_⟩
  refine k_forT ⟨⟨none, .inl ⟨rfl, rfl⟩⟩, rfl⟩ ?_ ?_
  · rintro i d env _ hd ⟨⟨x2, hh⟩, rfl⟩
    have hi : i < (stsOf O).length := by have := (List.getElem?_eq_some_iff.mp hd).1; simpa using this
    have ei : (stsOf O)[i]? = some (stsOf O)[i] := List.getElem?_eq_getElem hi
    have ed : d = FB.df (stsOf O)[i] := by rw [List.getElem?_map, ei] at hd; cases hd; rfl
    subst ed
    have hin := full _ (h.sub _ (List.mem_of_getElem? ei))
    rw [takeS ei]
    generalize (stsOf O)[i] = x at hin
    rcases hh with ⟨rfl, rfl⟩ | ⟨z, hz, rfl, hmax⟩
    · array_get_dec
      refine wp_ev (a := .bl true) (M' := M1) rfl ?_
      array_get_dec
      refine ⟨⟨_, .inr ⟨x, List.mem_append_right _ (List.mem_singleton.mpr rfl), rfl, fun y hy => ?_⟩⟩, rfl⟩
      have : y = x := by simpa using hy
      rw [this]; exact Nat.le_refl _
    · have hzD := full _ (h.sub _ (List.mem_of_mem_take hz))
      array_get_dec
      refine wp_ev (a := .bl false) (M' := M1) rfl ?_
      array_get_dec
      refine wg_ix (F := FB) (x := x) r1 (FB.key x) hin ?_
      array_get_dec
      refine wg_ix (F := FB) (x := z) r1 (FB.key z) hzD ?_
      array_get_dec
      by_cases hgt : rk z < rk x
      · refine ki_of (c := true) (by simp; omega) ?_
        array_get_dec
        refine ⟨⟨_, .inr ⟨x, List.mem_append_right _ (List.mem_singleton.mpr rfl), rfl, fun y hy => ?_⟩⟩, rfl⟩
        rcases List.mem_append.mp hy with hy | hy
        · have := hmax y hy; omega
        · rw [List.mem_singleton.mp hy]; exact Nat.le_refl _
      · refine ki_of (c := false) (by simp; omega) ?_
        array_get_dec
        refine ⟨⟨_, .inr ⟨z, List.mem_append_left _ hz, rfl, fun y hy => ?_⟩⟩, rfl⟩
        rcases List.mem_append.mp hy with hy | hy
        · exact hmax y hy
        · rw [List.mem_singleton.mp hy]; omega
  · rintro env _ ⟨⟨x2, hh⟩, rfl⟩
    rw [List.length_map, List.take_length] at hh
    rcases hh with ⟨hz, _⟩ | ⟨z, hz, rfl, hmax⟩
    · exact absurd (List.length_eq_zero_iff.mp hz) ne
    refine ⟨la1, fun M3 d3 k3 l3 => ?_⟩
    array_get_dec
    exact ⟨z, hz, rfl, hmax, kp_same0 (n := S) (k1.trans k3 fun _ _ e => e) hS (d3.full ne)⟩
end
def optD : Option Nat → Dv
  | none => .non
  | some n => .int (n : Nat)
theorem sp_forgets {t : Tb} {M : Mem} (ht : OkT t) : Wp (m_forgets [tabD t] M) fun d M' => ∃ o, d = optD o ∧ FgS (edO t) (StP t) o ∧ Kp NoW M M' := by
  refine wp_fn rfl [some (tabD t), none] rfl ?_
  unfold b_forgets
  array_get_dec
  refine (sp_check ht).go ?_
  rintro _ M1 k1
  array_get_dec
  rename_i s M2 e2 hs2 k2 l2
  refine (sp_init ht hs2).go ?_
  rintro _ M3 ⟨rfl, f, S, g, r, O, E, D, v, vS, le, rk, h, k3⟩
  have kk : Kp NoW M M3 := (k1.trN k2).trans k3 fun n hn e => by
    have e' : n = s := e
    have := k1.1
    omega
  have hs3 := h.hs
  array_get_dec
  refine (sp_endless h).go ?_
  rintro _ _ ⟨rfl, rfl⟩
  array_get_dec
  by_cases n : D.length < E.length
  · refine ki_of (c := true) (decide_eq_true n) ?_
    array_get_dec
    exact ⟨none, rfl, h.endless n, kk⟩
  · refine ki_of (c := false) (decide_eq_false n) ?_
    have full := h.full n
    array_get_dec
    refine (sp_longest h ht full).go ?_
    rintro _ M4 ⟨x, hx, rfl, hmax, k4⟩
    array_get_dec
    refine wg_ix (F := FB) (x := x) (h.ranks.kp k4 id) (FB.key x) (full x (h.sub x hx)) ?_
    array_get_dec
    refine ⟨some (rk x + 1), ?_, ⟨rk x, rfl, ⟨x, (sts_st h.all).mp hx, (h.rank x (full x (h.sub x hx))).2.1⟩, fun z hz p => ?_⟩, kk.trN k4⟩
    · show Dv.int (1 + _) = Dv.int _
      congr 1
      omega
    · have hz' := (sts_st h.all).mpr hz
      have a := (h.rank z (full z (h.sub z hz'))).2.le p
      have b := hmax z hz'
      omega
end L60

/-! text Fl1_60 -/
namespace L60
open PySem L2 PySem.Spec PyProof.Rows Zl
/-! ## the law's moves -/
theorem cut3 {xs : List Dv} {i : Nat} {d : Dv} (h : i < xs.length) : Zl.cutD xs none (some (i : Nat)) ++ [d] ++ Zl.cutD xs (some ((i : Int) + 1)) none = xs.set i d := by
  rw [cutTo (by omega), cutOf (c := i + 1) (by omega) (by omega), List.append_assoc]
  exact set_cut d h
theorem cutLen {xs : List Dv} {lo hi : Option Int} : (Zl.cutD xs lo hi).length ≤ xs.length := by
  unfold Zl.cutD
  rw [List.length_take, List.length_drop]
  omega
theorem set3a {xs : List Dv} {lo hi : Option Int} {d : Dv} (hl : xs.length ≤ 100) : (Zl.cutD xs lo hi).length + [d].length ≤ 16000000 := by
  have := cutLen (xs := xs) (lo := lo) (hi := hi)
  simp only [List.length_singleton]; omega
theorem set3b {xs : List Dv} {lo hi lo2 hi2 : Option Int} {d : Dv} (hl : xs.length ≤ 100) : (Zl.cutD xs lo hi ++ [d]).length + (Zl.cutD xs lo2 hi2).length ≤ 16000000 := by
  have := cutLen (xs := xs) (lo := lo) (hi := hi)
  have := cutLen (xs := xs) (lo := lo2) (hi := hi2)
  simp only [List.length_append, List.length_singleton]; omega
theorem sp_later {t : Tb} {n : Nd} {M : Mem} (ht : OkT t) (hn : okN t n) : Wp (m__law_later [tabD t, ndD iD n] M) fun d M' => ∃ p, d = .loc p ∧ M.length ≤ p ∧ M'[p]? = some (.lst ((freM t n).map (pmD iD))) ∧ Kp NoW M M' := by
  have hr : (t.rows.map rowD)[n.1]? = some (.tup [.int ((rowA t n.1).v : Nat), .int ((rowA t n.1).s : Nat), .tup (intsN (rowA t n.1).hits)]) := by rw [List.getElem?_map, rowA_at hn.1]; rfl
  refine wp_fn rfl [some (.tup [.int (t.l : Nat), .tup (t.rows.map rowD)]), some (.tup [.int (n.1 : Nat), .tup (n.2.map iD)]), none, none, none, none, none, none, none, none, none] rfl ?_
  unfold b__law_later
  array_get_dec
  have l4 := ht.l4
  refine wq_lcG (fun i => decide (n.2[i]? = some (some true))) (fun i => pmD iD (i, ((rowA t n.1).hits.getD i 0, n.2.set i (some false)))) ?_
  array_get_dec
  refine ⟨by show t.l ≤ _; omega, fun j M' k' hj => ?_, fun M' k' => rng_end, fun p M1 e1 l1 k1 g1 => ?_⟩
  · have hj' : j < t.l := hj
    refine ⟨.int (j : Nat), rng_go hj, ?_⟩
    obtain ⟨m, hm⟩ : ∃ m, n.2[j]? = some m := ⟨_, List.getElem?_eq_getElem (by rw [hn.2]; exact hj')⟩
    have em : (n.2.map iD)[j]? = some (iD m) := by rw [List.getElem?_map, hm]; rfl
    have eh : (intsN (rowA t n.1).hits)[j]? = some (.int (((rowA t n.1).hits.getD j 0 : Nat) : Int)) := by
      unfold intsN
      rw [List.getElem?_map, List.getD_eq_getElem?_getD, List.getElem?_eq_getElem (by rw [(okR_at ht hn.1).2.2.1]; exact hj')]; rfl
    rw [hm]
    array_get_dec
    refine wp_ev (a := .bl (decide (m = some true))) (M' := M') (by rcases m with _ | _ | _ <;> rfl) ?_
    array_get_dec
    refine ⟨by simp, .refl, fun _ => ?_⟩
    array_get_dec
    refine wq_addT (set3a (by rw [List.length_map, hn.2]; omega)) ?_
    array_get_dec
    refine wq_addT (set3b (by rw [List.length_map, hn.2]; omega)) ?_
    rw [cut3 (xs := n.2.map iD) (by rw [List.length_map, hn.2]; exact hj')]
    rw [show Dv.int 0 = iD (some false) from rfl, map_set iD]
    array_get_dec
    exact ⟨rfl, .refl⟩
  · have g1' : M1[p]? = some (.lst (((onL t n).map fun i => (i, ((rowA t n.1).hits.getD i 0, n.2.set i (some false)))).map (pmD iD))) := by
      rw [g1, List.map_map]; rfl
    array_get_dec
    refine wq_addT (set3a (by rw [List.length_map, hn.2]; omega)) ?_
    array_get_dec
    refine wq_addT (set3b (by rw [List.length_map, hn.2]; omega)) ?_
    rw [cut3 (xs := n.2.map iD) (by rw [List.length_map, hn.2]; exact (okR_at ht hn.1).1)]
    rw [show Dv.int 0 = iD (some false) from rfl, map_set iD]
    array_get_dec
    rename_i u M2 e2 g2 k2 l2
    have ol := on_len (t := t) (n := n)
    refine wq_addL (k2.at g1' id) g2 (by simp only [List.length_map, List.length_singleton]; omega) ?_
    array_get_dec
    rename_i w M3 e3 g3 k3 l3
    refine ⟨w, rfl, by omega, ?_, (k1.trN k2).trN k3⟩
    rw [g3]
    unfold freM
    rw [List.map_append]; rfl
theorem flat_iD : ∀ ms : List (Option Bool), (ms.map iD).all flatD = true
  | [] => rfl
  | m :: ms => by rw [List.map_cons, List.all_cons, flat_iD ms]; rcases m with _ | _ | _ <;> rfl
theorem any_iD : ∀ ms : List (Option Bool), ((ms.map iD).any fun z => eqF z (.int 1)) = decide (some true ∈ ms)
  | [] => rfl
  | m :: ms => by
    rw [List.map_cons, List.any_cons, any_iD ms]
    rcases m with _ | _ | _ <;> simp [iD, eqF]
theorem wp_hasI {n : Nd} {M : Mem} {q : QE} (c : q (.bl (hasO n)) M) : Wp (inE false (.int 1) (.tup (n.2.map iD)) M) q := by
  refine wp_inT (by unfold inE inD; simp only [flat_iD]; rfl) ?_
  rw [any_iD, Bool.false_xor]
  exact c
end L60

/-! text Fl2_60 -/
namespace L60
open PySem L2 PySem.Spec PyProof.Rows Zl
/-! ## the law's stages -/
def updW (w : Nd → List Dv) (x : Nd) (a : List Dv) : Nd → List Dv := fun y => if y = x then a else w y
theorem updW_same {w : Nd → List Dv} {x : Nd} {a : List Dv} : updW w x a x = a := if_pos rfl
theorem updW_ne {w : Nd → List Dv} {x y : Nd} {a : List Dv} (h : y ≠ x) : updW w x a y = w y := if_neg h
theorem setVT {w : Nd → List Dv} {x : Nd} {a : List Dv} : setV (fun y => Dv.tup (w y)) x (.tup a) = fun y => .tup (updW w x a y) := by
  funext y
  unfold setV updW
  split <;> rfl
structure LI (t : Tb) (O : List Nd) (w : Nd → List Dv) : Prop where
  nd : O.Nodup
  first : O[0]? = some (beg t)
  rch : ∀ x ∈ O, RcS t x
  len : ∀ x ∈ O, (w x).length < O.length
theorem LI.few {t : Tb} {O : List Nd} {w : Nd → List Dv} (ht : OkT t) (h : LI t O w) : O.length ≤ 5184 := (few_nd ht h.nd fun x hx => rcs_ok ht (h.rch x hx)).2
theorem sp_begun {t : Tb} {M : Mem} (ht : OkT t) : Wp (m__law_begun [tabD t] M) fun d M' => ∃ f O v, d = .loc f ∧ M.length ≤ f ∧ DA FB v f O M' ∧ O ≠ [] ∧ O.length ≤ 5184 ∧ (∀ x, x ∈ O ↔ RcS t x) ∧ Kp NoW M M' := by
  have hr : ∀ {i : Nat}, i < t.rows.length → (t.rows.map rowD)[i]? = some (.tup [.int ((rowA t i).v : Nat), .int ((rowA t i).s : Nat), .tup (intsN (rowA t i).hits)]) := fun h => by rw [List.getElem?_map, rowA_at h]; rfl
  refine wp_fn rfl [some (.tup [.int (t.l : Nat), .tup (t.rows.map rowD)]), none, none, none, none, none, none, none, none, none, none, none, none, none, none, none] rfl ?_
  unfold b__law_begun
  array_get_dec
  have l4 := ht.l4
  refine wp_mulT (k := t.l) (by simp; omega) (by omega) ?_
  have rp : (List.replicate t.l [Dv.bl false]).flatten = (List.replicate t.l (some false)).map bD := by
    generalize t.l = k
    induction k with
    | zero => rfl
    | succ k ih => rw [List.replicate_succ, List.replicate_succ, List.flatten_cons, ih]; rfl
  rw [rp]
  array_get_dec
  refine wp_or1 ?_
  refine wq_dict1N ?_
  array_get_dec
  rename_i f M1 e1 g1 k1 l1
  refine ⟨_, g1, FB.key (beg t), ?_⟩
  array_get_dec
  rename_i M2 g2 k2 l2 q M3 e3 g3 k3 l3
  have d0 : DA FB (fun x => .tup ((fun _ => [] : Nd → List Dv) x)) f [beg t] M3 := .inr (k3.at g2 id)
  have s0 : LI t [beg t] (fun _ => []) := ⟨by simp, rfl, fun x hx => by rw [List.mem_singleton.mp hx]; exact .first, fun x hx => by simp⟩
  have kk0 : Kp NoW M M3 := (k1.trans k2 fun m hm e => by have e' : m = f := e; omega).trN k3
  refine wp_whileI (fun m env M' => ∃ (x7 x8 x9 x10 x11 x12 x13 x14 : Option Dv) (O : List Nd) (k : Nat) (w : Nd → List Dv), env = [some (tabD t), some (.int (t.l : Nat)), some (.tup (t.rows.map rowD)), some (ndD bD (beg t)), some (.loc f), some (.loc q), some (.int (k : Nat)), x7, x8, x9, x10, x11, x12, x13, x14, none] ∧ DA FB (fun x => .tup (w x)) f O M' ∧ M'[q]? = some (.lst (O.map (ndD bD))) ∧ LI t O w ∧
    (∀ (j : Nat) x, j < k → O[j]? = some x → ∀ e ∈ anyM t x, e.2 ∈ O) ∧ k ≤ O.length ∧ m + k = 6000 ∧ Kp NoW M M') ?_ 1000000 6000 _ M3 (by omega)
    ⟨none, none, none, none, none, none, none, none, [beg t], 0, _, rfl, d0, g3, s0, fun j x hj => absurd hj (by omega), by simp, rfl, kk0⟩
  rintro m env M4 ⟨x7, x8, x9, x10, x11, x12, x13, x14, O, k, w, rfl, dA, qA, sA, cA, kl, mk, kA⟩
  have few := sA.few ht
  array_get_dec
  by_cases hl : k < O.length
  · rw [decide_eq_true (by rw [List.length_map]; exact_mod_cast hl)]
    refine (show Wp _ _ from ?_)
    have es : O[k]? = some O[k] := List.getElem?_eq_getElem hl
    have es' : (O.map (ndD bD))[k]? = some (.tup [.int (O[k].1 : Nat), .tup (O[k].2.map bD)]) := by rw [List.getElem?_map, es]; rfl
    generalize O[k] = s at es es'
    have rs := sA.rch s (List.mem_of_getElem? es)
    have hn := rcs_ok ht rs
    have rsm := rcs_some rs
    have hr' := hr hn.1
    array_get_dec
    refine wq_lcG (fun i => decide (s.2[i]? = some (some true))) (fun i => pmD bD (i, ((rowA t s.1).hits.getD i 0, s.2))) ?_
    array_get_dec
    refine ⟨by show t.l ≤ _; omega, fun j M' k' hj => ?_, fun M' k' => rng_end, fun p M5 e5 l5 k5 g5 => ?_⟩
    · have hj' : j < t.l := hj
      refine ⟨.int (j : Nat), rng_go hj, ?_⟩
      obtain ⟨m, hm⟩ : ∃ m, s.2[j]? = some m := ⟨_, List.getElem?_eq_getElem (by rw [hn.2]; exact hj')⟩
      have em : (s.2.map bD)[j]? = some (bD m) := by rw [List.getElem?_map, hm]; rfl
      have eh : (intsN (rowA t s.1).hits)[j]? = some (.int (((rowA t s.1).hits.getD j 0 : Nat) : Int)) := by
        unfold intsN
        rw [List.getElem?_map, List.getD_eq_getElem?_getD, List.getElem?_eq_getElem (by rw [(okR_at ht hn.1).2.2.1]; exact hj')]; rfl
      rw [hm]
      have sm := rsm m (List.mem_of_getElem? hm)
      array_get_dec
      rcases m with _ | b
      · cases sm
      refine (show kB _ (.bl b) M' from ?_)
      array_get_dec
      refine ⟨by simp, .refl, fun _ => ?_⟩
      array_get_dec
      exact ⟨rfl, .refl⟩
    have g5' : M5[p]? = some (.lst (((onL t s).map fun i => (i, ((rowA t s.1).hits.getD i 0, s.2))).map (pmD bD))) := by
      rw [g5, List.map_map]; rfl
    have dlt := dA.lt
    have qlt := lt_of qA
    array_get_dec
    refine wq_addT (set3a (by rw [List.length_map, hn.2]; omega)) ?_
    array_get_dec
    refine wq_addT (set3b (by rw [List.length_map, hn.2]; omega)) ?_
    rw [cut3 (xs := s.2.map bD) (by rw [List.length_map, hn.2]; exact (okR_at ht hn.1).1)]
    rw [show Dv.bl true = bD (some true) from rfl, map_set bD]
    array_get_dec
    have ol := on_len (t := t) (n := s)
    refine wq_append g5' (size_lt (by simp only [List.length_map]; omega)) ?_
    array_get_dec
    rename_i M6 g6 k6 l6
    have g6' : M6[p]? = some (.lst ((anyM t s).map (pmD bD))) := by
      rw [g6]
      unfold anyM
      rw [List.map_append]; rfl
    have k46 : Kp NoW M4 M6 := k5.trans k6 fun n hn e => by have e' : n = p := e; omega
    refine wq_for (fun i env M' => ∃ (y13 y14 : Option Dv) (O' : List Nd) (w' : Nd → List Dv), env = [some (tabD t), some (.int (t.l : Nat)), some (.tup (t.rows.map rowD)), some (ndD bD (beg t)), some (.loc f), some (.loc q), some (.int (k : Nat)), some (.int (s.1 : Nat)), some (.tup (s.2.map bD)), some (.int ((rowA t s.1).v : Nat)), some (.int ((rowA t s.1).s : Nat)), some (.tup (intsN (rowA t s.1).hits)), some (.loc p), y13, y14, none] ∧ DA FB (fun x => .tup (w' x)) f O' M' ∧ M'[q]? = some (.lst (O'.map (ndD bD))) ∧ LI t O' w' ∧
      (∀ (j : Nat) x, O[j]? = some x → O'[j]? = some x) ∧ (∀ e ∈ (anyM t s).take i, e.2 ∈ O') ∧ M'[p]? = some (.lst ((anyM t s).map (pmD bD))) ∧ Kp (fun a => a = f ∨ a = q) M6 M') ?_
    array_get_dec
    refine k_forL (fun i env M' hh => by obtain ⟨_, _, _, _, _, _, _, _, _, _, h, _⟩ := hh; exact h) ⟨x13, x14, O, w, rfl, dA.kp k46 id, k46.at qA id, sA, fun _ _ h => h, fun e h => by simp at h, g6', .refl⟩ ?_ ?_
    · rintro i d env M7 hd ⟨y13, y14, O', w', rfl, b1, b2, b3, b4, b5, b6, b7⟩
      have hi : i < (anyM t s).length := by have := (List.getElem?_eq_some_iff.mp hd).1; simpa using this
      have ei : (anyM t s)[i]? = some (anyM t s)[i] := List.getElem?_eq_getElem hi
      have ed : d = pmD bD (anyM t s)[i] := by rw [List.getElem?_map, ei] at hd; cases hd; rfl
      subst ed
      have hin := List.mem_of_getElem? ei
      rw [takeS ei]
      generalize (anyM t s)[i] = e at hin
      obtain ⟨m1, x⟩ := e
      have few' := b3.few ht
      have es2 : (O'.map (ndD bD))[k]? = some (ndD bD s) := by rw [List.getElem?_map, b4 k s es]; rfl
      have sin := List.mem_of_getElem? (b4 k s es)
      have wl := b3.len s sin
      rw [show pmD bD (m1, x) = Dv.tup [.int (m1 : Nat), ndD bD x] from rfl]
      array_get_dec
      refine wg_in b1 (FB.key x) ?_
      array_get_dec
      by_cases hx : x ∈ O'
      · refine ki_of (c := false) (by simp [hx]) ?_
        array_get_dec
        refine ⟨_, _, O', w', rfl, b1, b2, b3, b4, fun e he => ?_, b6, b7⟩
        rcases List.mem_append.mp he with he | he
        · exact b5 e he
        · rw [List.mem_singleton.mp he]; exact hx
      · refine ki_of (c := true) (by simp [hx]) ?_
        array_get_dec
        refine wg_ix (F := FB) (x := s) b1 (FB.key s) sin ?_
        array_get_dec
        refine wq_addT (by simp only [List.length_singleton]; omega) ?_
        array_get_dec
        refine kg_set (F := FB) (x := x) b1 (by omega) fun M8 c8 k8 l8 => ?_
        rw [if_neg hx, setVT] at c8
        array_get_dec
        have q8 := k8.at b2 (by show ¬ q = f; omega)
        refine wq_append q8 (size_lt (by rw [List.length_map]; omega)) ?_
        array_get_dec
        rename_i M9 g9 k9 l9
        have pos : 0 < O'.length := (List.getElem?_eq_some_iff.mp b3.first).1
        refine ⟨_, _, O' ++ [x], updW w' x (w' s ++ [.int (m1 : Nat)]), rfl, c8.kp k9 (by show ¬ f = q; omega), by rw [g9, List.map_append]; rfl, ⟨?_, ?_, fun y hy => ?_, fun y hy => ?_⟩, fun j z hz => ?_, fun e he => ?_, k9.at (k8.at b6 (by show ¬ p = f; omega)) (by show ¬ p = q; omega), (b7.trans k8 fun a _ e => .inl e).trans k9 fun a _ e => .inr e⟩
        · rw [List.nodup_append]
          exact ⟨b3.nd, by simp, fun a ha b hb e => hx (by rw [← List.mem_singleton.mp hb, ← e]; exact ha)⟩
        · rw [List.getElem?_append_left pos]; exact b3.first
        · rcases List.mem_append.mp hy with hy | hy
          · exact b3.rch y hy
          · rw [List.mem_singleton.mp hy]; exact .go (e := (m1, x)) rs hin
        · rw [List.length_append, List.length_singleton]
          by_cases hne : y = x
          · rw [hne, updW_same, List.length_append, List.length_singleton]; omega
          · have := b3.len y ((List.mem_append.mp hy).resolve_right fun z => hne (by simpa using z))
            rw [updW_ne hne]
            omega
        · have q := b4 j z hz
          rw [List.getElem?_append_left (List.getElem?_eq_some_iff.mp q).1]; exact q
        · rcases List.mem_append.mp he with he | he
          · exact List.mem_append_left _ (b5 e he)
          · rw [List.mem_singleton.mp he]; exact List.mem_append_right _ (List.mem_singleton.mpr rfl)
    · rintro env M7 ⟨y13, y14, O', w', rfl, b1, b2, b3, b4, b5, b6, b7⟩
      rw [List.length_map, List.take_length] at b5
      array_get_dec
      refine ⟨m - 1, by omega, _, _, _, _, _, _, y13, y14, O', k + 1, w', rfl, b1, b2, b3, fun j x hj hx e he => ?_, ?_, by omega, (kA.trN k46).trans b7 fun a ha e => by have e' : a = f ∨ a = q := e; omega⟩
      · by_cases hjk : j < k
        · have jl : j < O.length := by omega
          obtain ⟨z, hz⟩ : ∃ z, O[j]? = some z := ⟨_, List.getElem?_eq_getElem jl⟩
          have := b4 j z hz
          rw [hx] at this
          cases this
          obtain ⟨i', hi'⟩ := List.getElem?_of_mem (cA j x hjk hz e he)
          exact List.mem_of_getElem? (b4 i' _ hi')
        · have jk : j = k := by omega
          subst jk
          have := b4 j s es
          rw [hx] at this
          cases this
          exact b5 e he
      · have := (List.getElem?_eq_some_iff.mp (b4 k s es)).1
        omega
  · have ek : k = O.length := by omega
    subst ek
    rw [decide_eq_false (by rw [List.length_map]; omega)]
    refine (show kSeq _ _ _ _ from ?_)
    array_get_dec
    refine ⟨f, O, _, rfl, by omega, dA, fun e => (by have := sA.first; rw [e] at this; cases this), few, fun x => ⟨sA.rch x, fun r => ?_⟩, kA⟩
    induction r with
    | first => exact List.mem_of_getElem? sA.first
    | go _ he ih =>
      obtain ⟨j, hj⟩ := List.getElem?_of_mem ih
      exact cA j _ (List.getElem?_eq_some_iff.mp hj).1 hj _ he
end L60

/-! text Fl3_60 -/
namespace L60
open PySem L2 PySem.Spec PyProof.Rows Zl
/-! ## the law's starts and layers -/
theorem sp_lstarts {t : Tb} {M : Mem} (ht : OkT t) : Wp (m__law_starts [tabD t] M) fun d M' => ∃ (n : Nat) (L : List Nd), d = .loc n ∧ M'[n]? = some (.lst (L.map (ndD iD))) ∧ (∀ x, x ∈ L ↔ StP t x) ∧ L.length ≤ 5184 ∧ Kp NoW M M' := by
  refine wp_fn rfl [some (tabD t), none, none, none, none] rfl ?_
  unfold b__law_starts
  array_get_dec
  rename_i n M1 e1 g1 k1 l1
  refine wg_for ?_
  refine wg_keysU FB ?_
  array_get_dec
  refine (sp_begun ht).go ?_
  rintro _ M2 ⟨f, O, v, rfl, fge, d2, ne, few, all, k2⟩
  refine ⟨f, O, v, ne, rfl, d2, fun M3 k3 l3 => ?_⟩
  have nf : n ≠ f := fun e => by
    have h1 := d2.full ne
    rw [← e, k2.at g1 id] at h1
    cases h1
  have g3 := k3.at (k2.at g1 id) nf
  have nlt := lt_of g1
  have l4 := ht.l4
  refine ⟨fun i env M' => ∃ (x2 x3 : Option Dv), env = [some (tabD t), some (.loc n), x2, x3, none] ∧ M'[n]? = some (.lst ((stsOf (O.take i)).map (ndD iD))) ∧ Kp (fun a => a = n) M3 M', ?_⟩
  refine k_forT ⟨none, none, rfl, g3, .refl⟩ ?_ ?_
  · rintro i d env M4 hd ⟨x2, x3, rfl, g4, k4⟩
    have hi : i < O.length := by have := (List.getElem?_eq_some_iff.mp hd).1; simpa using this
    have ei : O[i]? = some O[i] := List.getElem?_eq_getElem hi
    have ed : d = FB.df O[i] := by rw [List.getElem?_map, ei] at hd; cases hd; rfl
    subst ed
    have hin := List.mem_of_getElem? ei
    rw [takeS ei, stsOf_app]
    generalize O[i] = x at hin
    have xr := (all x).mp hin
    have xo := rcs_ok ht xr
    have sm := rcs_some xr
    have sl := stsOf_len (O := O.take i)
    rw [List.length_take] at sl
    rw [show FB.df x = Dv.tup [.int (x.1 : Nat), .tup (x.2.map bD)] from rfl]
    array_get_dec
    refine wp_hasO ?_
    array_get_dec
    cases hb : hasO x with
    | false =>
      refine ki_of (c := false) rfl ?_
      array_get_dec
      rw [if_neg (by decide), List.append_nil]
      exact ⟨_, _, rfl, g4, k4⟩
    | true =>
      refine ki_of (c := true) rfl ?_
      array_get_dec
      refine wq_map (fun x => match x with | .bl true => .int 1 | _ => .non) ?_
      array_get_dec
      refine k_mapT (size_le (by rw [List.length_map, xo.2]; omega)) ?_ ?_
      · intro y hy M5 k5
        obtain ⟨m, hm, rfl⟩ := List.mem_map.mp hy
        have s1 := sm m hm
        rcases m with _ | b
        · cases s1
        array_get_dec
        cases b with
        | true =>
          refine (show kB _ (.bl true) M5 from ?_)
          array_get_dec
          exact ⟨rfl, .refl⟩
        | false =>
          refine (show kB _ (.bl false) M5 from ?_)
          array_get_dec
          exact ⟨rfl, .refl⟩
      intro p M5 e5 l5 k5 g5
      array_get_dec
      refine wq_append (k5.at g4 id) (size_lt (by rw [List.length_map]; omega)) ?_
      array_get_dec
      rename_i M6 g6 k6 l6
      refine ⟨_, _, rfl, ?_, (k4.trN k5).trans k6 fun _ _ e => e⟩
      rw [g6, if_pos rfl, List.map_append]
      have em : (x.2.map bD).map (fun x => match x with | .bl true => Dv.int 1 | _ => .non) = (oldm x).2.map iD := by
        unfold oldm
        rw [List.map_map, List.map_map]
        refine List.map_congr_left fun m hm => ?_
        have s1 := sm m hm
        rcases m with _ | _ | _
        · cases s1
        · rfl
        · rfl
      rw [em]; rfl
  · rintro env M4 ⟨x2, x3, rfl, g4, k4⟩
    rw [List.length_map, List.take_length] at g4
    array_get_dec
    have sl := stsOf_len (O := O)
    refine ⟨n, stsOf O, rfl, g4, fun x => sts_st all, by omega, ?_⟩
    have m1 := k1.1
    have m2 := k2.1
    have k13 : Kp NoW M M3 := (k1.trN k2).trans k3 fun a ha e => by
      have e' : a = f := e
      omega
    exact k13.trans k4 fun a ha e => by have e' : a = n := e; omega
theorem exists_rk {t : Tb} {x : Nd} : ∀ k, ¬ Pth (edO t) k x → ∃ r, Rk (edO t) x r
  | 0, h => absurd trivial h
  | k + 1, h => Classical.byCases (fun p : Pth (edO t) k x => ⟨k, p, h⟩) fun p => exists_rk k p
theorem rk_bound {t : Tb} (ht : OkT t) {x : Nd} {r : Nat} (hx : okN t x) (h : Rk (edO t) x r) : r + 1 ≤ 3 ^ t.l * t.rows.length := by
  have okA : ∀ {n : Nd}, n ∈ allN t → okN t n := fun {n} hn => by
    unfold allN at hn
    obtain ⟨s, hs, q⟩ := List.mem_flatMap.mp hn
    obtain ⟨ms, hms, rfl⟩ := List.mem_map.mp q
    refine ⟨List.mem_range.mp hs, ?_⟩
    have key : ∀ (l : Nat) (ms : List (Option Bool)), ms ∈ marksA l → ms.length = l := by
      intro l
      induction l with
      | zero => intro ms h; rw [List.mem_singleton.mp h]; rfl
      | succ l ih =>
        intro ms h
        obtain ⟨m0, h0, q⟩ := List.mem_flatMap.mp h
        have := ih m0 h0
        simp only [List.mem_cons, List.not_mem_nil, or_false] at q
        rcases q with rfl | rfl | rfl <;> simp [this]
    exact key _ _ hms
  have := rk_small (ed := edO t) (E := allN t) (fun y hy e he => allN_mem (ed_ok ht (okA hy) he)) (allN_mem hx) h
  rw [allN_len] at this
  exact this
theorem fg_small {t : Tb} (ht : OkT t) {v : Nat} (h : FgS (edO t) (StP t) (some v)) : v ≤ 3 ^ t.l * t.rows.length := by
  obtain ⟨k, rfl, ⟨s, s1, s2⟩, h2⟩ := h
  obtain ⟨z, z1, z2, e⟩ := s1
  have ok : okN t s := by rw [e]; exact old_ok (rcs_ok ht z1)
  exact rk_bound ht ok ⟨s2, h2 s ⟨z, z1, z2, e⟩⟩
theorem stp_ok {t : Tb} (ht : OkT t) {n : Nd} (h : StP t n) : okN t n := by
  obtain ⟨s, h1, _, rfl⟩ := h
  exact old_ok (rcs_ok ht h1)
def ndP (n : Nd) : PyData := .tuple [.int (n.1 : Nat), .tuple (n.2.map fun m => match m with | some true => .int 1 | some false => .int 0 | none => .none)]
theorem rd_nd {M : Mem} {k : Nat} (n : Nd) : rd M (k + 2) (ndD iD n) = some (ndP n) := by
  refine rd_tup (rdL_cons rfl (rdL_cons (rd_tup ?_) rdL_nil))
  have key : ∀ ms : List (Option Bool), rdL (rd M k) (ms.map iD) = some (ms.map fun m => match m with | some true => PyData.int 1 | some false => .int 0 | none => .none) := by
    intro ms
    induction ms with
    | nil => rfl
    | cons m ms ih => exact rdL_cons (by rcases m with _ | _ | _ <;> cases k <;> rfl) ih
  exact key n.2
theorem rd_nds {M : Mem} {k : Nat} : ∀ ns : List Nd, rdL (rd M (k + 2)) (ns.map (ndD iD)) = some (ns.map ndP)
  | [] => rfl
  | n :: ns => rdL_cons (rd_nd n) (rd_nds ns)
theorem sm_nd {t : Tb} (ht : OkT t) {n : Nd} (h : okN t n) : Sm 2 20 (ndP n) := by
  have r64 := ht.r64
  have l4 := ht.l4
  have lt := h.1
  have len := h.2
  have m1 : Sm 1 8 (.tuple (n.2.map fun m => match m with | some true => PyData.int 1 | some false => .int 0 | none => .none)) := by
    refine (sm_tuple (smA_all (k := 0) (n := 1) fun p hp => ?_)).mono (by omega) (by rw [List.length_map]; omega)
    obtain ⟨m, _, rfl⟩ := List.mem_map.mp hp
    rcases m with _ | _ | _
    · exact ⟨rfl, Nat.zero_le _, rfl, rfl, rfl, Nat.zero_le _⟩
    · exact sm_nat (j := 0) (by decide)
    · exact sm_nat (j := 1) (by decide)
  exact (sm_tuple (smA_cons (sm_nat (k := 1) (n := 1) (by omega)) (smA_cons m1 (smA_nil (n := 0))))).mono (by omega) (by omega)
theorem wp_neNil {t : Tb} (ht : OkT t) {n m : Nat} {L : List Nd} {M : Mem} {q : QE} (hn : M[n]? = some (.lst (L.map (ndD iD)))) (hm : M[m]? = some (.lst [])) (ok : ∀ x ∈ L, okN t x) (c : q (.bl (decide (L ≠ []))) M) : Wp (eqD true (.loc n) (.loc m) M) q := by
  refine wq_eqS (rd_loc (n := 29) hn (rd_nds (k := 27) L)) (rd_loc (n := 29) hm rdL_nil) (sm_list (smA_all (k := 2) (n := 20) fun p hp => by obtain ⟨x, hx, rfl⟩ := List.mem_map.mp hp; exact sm_nd ht (ok x hx))) (sm_list (smA_nil (n := 0) (k := 0))) (by decide) (by decide) ?_
  have e : (true ^^ PyData.eqv (.list (L.map ndP)) (.list [])) = decide (L ≠ []) := by
    cases L with
    | nil => rfl
    | cons x xs => simp [PyData.eqv, PyData.eqvAll]
  rw [e]; exact c
end L60

/-! text Fl4_60 -/
namespace L60
open PySem L2 PySem.Spec PyProof.Rows Zl
/-! ## layer by layer -/
theorem lawPow {l : Nat} (h1 : 1 ≤ l) (h4 : l ≤ 4) : atI [Dv.int 3, .int 9, .int 27, .int 81] ((l : Int) - 1) = some (.int ((3 ^ l : Nat) : Int)) := by
  have : l = 1 ∨ l = 2 ∨ l = 3 ∨ l = 4 := by omega
  rcases this with rfl | rfl | rfl | rfl <;> rfl
theorem sp_lforgotten {t : Tb} {M : Mem} (ht : OkT t) : Wp (m__law_forgotten [tabD t] M) fun d M' => ∃ o, d = optD o ∧ FgS (edO t) (StP t) o ∧ Kp NoW M M' := by
  have l1t := ht.l1
  have l4 := ht.l4
  have r64 := ht.r64
  refine wp_fn rfl [some (.tup [.int (t.l : Nat), .tup (t.rows.map rowD)]), none, none, none, none, none, none] rfl ?_
  unfold b__law_forgotten
  array_get_dec
  refine (sp_lstarts ht).go ?_
  rintro _ M1 ⟨n, L0, rfl, g1, m1, few1, k1⟩
  array_get_dec
  have start : ∀ k, (∃ x ∈ L0, Pth (edO t) k x) ↔ ∃ s, StP t s ∧ Pth (edO t) (0 + k) s := fun k => by
    rw [Nat.zero_add]
    exact ⟨fun ⟨x, hx, p⟩ => ⟨x, (m1 x).mp hx, p⟩, fun ⟨x, hx, p⟩ => ⟨x, (m1 x).mpr hx, p⟩⟩
  obtain ⟨N, hN⟩ : ∃ N, N = 3 ^ t.l * t.rows.length := ⟨_, rfl⟩
  have bnd : N ≤ 5184 := by rw [hN]; exact Nat.le_trans (Nat.mul_le_mul (pow3 l4) r64) (by decide)
  refine wp_whileI (fun m env M' => ∃ (x3 x4 x5 x6 : Option Dv) (ly : Nat) (L : List Nd) (j : Nat), env = [some (.tup [.int (t.l : Nat), .tup (t.rows.map rowD)]), some (.loc ly), some (.int (j : Nat)), x3, x4, x5, x6] ∧ M'[ly]? = some (.lst (L.map (ndD iD))) ∧ L.length ≤ 5184 ∧ (∀ x ∈ L, okN t x) ∧
    (∀ k, (∃ x ∈ L, Pth (edO t) k x) ↔ ∃ s, StP t s ∧ Pth (edO t) (j + k) s) ∧ (j = 0 ∨ ∃ s, StP t s ∧ Pth (edO t) (j - 1) s) ∧ m + j = 6000 ∧ j ≤ N + 1 ∧ Kp NoW M M') ?_ 1000000 6000 _ M1 (by omega)
    ⟨none, none, none, none, n, L0, 0, rfl, g1, few1, fun x hx => stp_ok ht ((m1 x).mp hx), start, .inl rfl, rfl, by omega, k1⟩
  rintro m env M2 ⟨x3, x4, x5, x6, ly, L, j, rfl, g2, few, ok, inv, ahead, mj, jb, kk⟩
  have ly2 := lt_of g2
  array_get_dec
  rename_i u M3 e3 g3 k3 l3
  refine wp_neNil ht (k3.at g2 id) g3 ok ?_
  array_get_dec
  by_cases hL : L = []
  · rw [decide_eq_false (by simpa using hL)]
    refine (show kSeq _ _ _ _ from ?_)
    array_get_dec
    have no : ¬ ∃ s, StP t s ∧ Pth (edO t) j s := fun q => by
      have := (inv 0).mpr q
      rw [hL] at this
      obtain ⟨x, hx, _⟩ := this
      cases hx
    obtain ⟨z, z1, z2⟩ := first_start ht
    have j0 : j ≠ 0 := fun e => no ⟨oldm z, ⟨z, z1, z2, rfl⟩, by rw [e]; trivial⟩
    refine ⟨some j, rfl, ⟨j - 1, by omega, ahead.resolve_left j0, fun s hs p => no ⟨s, hs, ?_⟩⟩, kk.trN k3⟩
    rw [show j = j - 1 + 1 by omega]; exact p
  · rw [decide_eq_true (by simpa using hL)]
    refine (show Wp _ _ from ?_)
    have now : ∃ s, StP t s ∧ Pth (edO t) j s := (inv 0).mp (by
      obtain ⟨x, hx⟩ := List.exists_mem_of_ne_nil _ hL
      exact ⟨x, hx, trivial⟩)
    array_get_dec
    rename_i u2 M4 e4 g4 k4 l4'
    refine wp_ixL g4 (lawPow l1t l4) ?_
    rw [List.length_map]
    refine wp_mulI (.inl ⟨by omega, by omega⟩) ?_
    rw [show ((t.rows.length : Nat) : Int) * ((3 ^ t.l : Nat) : Int) = (N : Int) by rw [hN, Nat.mul_comm]; exact_mod_cast rfl]
    array_get_dec
    by_cases hB : N + 1 < j + 1
    · refine ki_of (c := true) (by simp; omega) ?_
      array_get_dec
      refine ⟨none, rfl, fun k => ?_, (kk.trN k3).trN k4⟩
      obtain ⟨s, s1, s2⟩ := now
      refine ⟨s, s1, Classical.byContradiction fun q => ?_⟩
      obtain ⟨r, hr⟩ := exists_rk k q
      have a := rk_bound ht (stp_ok ht s1) hr
      rw [← hN] at a
      have b := hr.le s2
      omega
    · refine ki_of (c := false) (by simp; omega) ?_
      array_get_dec
      rename_i w M5 e5 g5 k5 l5
      have ly5 := k5.at (k4.at (k3.at g2 id) id) id
      have k25 : Kp NoW M2 M5 := (k3.trN k4).trN k5
      have m25 := k25.1
      refine wq_for (fun i env M' => ∃ (y4 y5 y6 : Option Dv) (Kn : List Nd) (v : Nd → Dv), env = [some (.tup [.int (t.l : Nat), .tup (t.rows.map rowD)]), some (.loc ly), some (.int ((j + 1 : Nat) : Int)), some (.loc w), y4, y5, y6] ∧ M'[ly]? = some (.lst (L.map (ndD iD))) ∧ DA FJ v w Kn M' ∧ Kn.Nodup ∧ (∀ y, y ∈ Kn ↔ ∃ x ∈ L.take i, ∃ e ∈ edO t x, e.2 = y) ∧ Kp (fun a => a = w) M5 M') ?_
      array_get_dec
      refine k_forL (fun i env M' hh => by obtain ⟨_, _, _, _, _, _, h, _⟩ := hh; exact h) ⟨x4, x5, x6, [], fun _ => .non, by rw [show ((j : Int) + 1) = ((j + 1 : Nat) : Int) by omega]; rfl, ly5, .inl ⟨rfl, g5⟩, List.nodup_nil, fun y => by simp, .refl⟩ ?_ ?_
      · rintro i d env M6 hd ⟨y4, y5, y6, Kn, v, rfl, b1, b2, b3, b4, b5⟩
        have hi : i < L.length := by have := (List.getElem?_eq_some_iff.mp hd).1; simpa using this
        have ei : L[i]? = some L[i] := List.getElem?_eq_getElem hi
        have ed : d = ndD iD L[i] := by rw [List.getElem?_map, ei] at hd; cases hd; rfl
        subst ed
        have xin := List.mem_of_getElem? ei
        rw [takeS ei]
        generalize L[i] = x at xin
        have xo := ok x xin
        array_get_dec
        refine wg_for ?_
        array_get_dec
        refine (sp_later ht xo).go ?_
        rintro _ M7 ⟨p, rfl, pl, gp, k7⟩
        array_get_dec
        have wlt := b2.lt
        have lylt := lt_of b1
        refine ⟨fun j2 env M' => ∃ (z5 z6 : Option Dv) (Kn' : List Nd) (v' : Nd → Dv), env = [some (.tup [.int (t.l : Nat), .tup (t.rows.map rowD)]), some (.loc ly), some (.int ((j + 1 : Nat) : Int)), some (.loc w), some (ndD iD x), z5, z6] ∧ M'[p]? = some (.lst ((freM t x).map (pmD iD))) ∧ DA FJ v' w Kn' M' ∧ Kn'.Nodup ∧ (∀ y, y ∈ Kn' ↔ y ∈ Kn ∨ ∃ e ∈ (freM t x).take j2, hasO e.2 = true ∧ e.2 = y) ∧ Kp (fun a => a = w) M7 M', ?_⟩
        refine k_forL (fun i env M' hh => by obtain ⟨_, _, _, _, _, h, _⟩ := hh; exact h) ⟨y5, y6, Kn, v, rfl, gp, b2.kp k7 id, b3, fun y => by simp, .refl⟩ ?_ ?_
        · rintro j2 d env M8 hd ⟨z5, z6, Kn', v', rfl, c1, c2, c3, c4, c5⟩
          have hj : j2 < (freM t x).length := by have := (List.getElem?_eq_some_iff.mp hd).1; simpa using this
          have ej : (freM t x)[j2]? = some (freM t x)[j2] := List.getElem?_eq_getElem hj
          have ed : d = pmD iD (freM t x)[j2] := by rw [List.getElem?_map, ej] at hd; cases hd; rfl
          subst ed
          have ein := List.mem_of_getElem? ej
          rw [takeS ej]
          generalize (freM t x)[j2] = e at ein
          obtain ⟨m1, y⟩ := e
          have ox : ∀ z ∈ L.take i ++ [x], okN t z := fun z hz => by
            rcases List.mem_append.mp hz with q | q
            · exact ok z (List.mem_of_mem_take q)
            · rw [List.mem_singleton.mp q]; exact xo
          have okK : ∀ z ∈ Kn', okN t z := fun z hz => by
            rcases (c4 z).mp hz with q | ⟨e, he, _, rfl⟩
            · obtain ⟨x', hx', e, he, rfl⟩ := (b4 z).mp q
              exact ed_ok ht (ok x' (List.mem_of_mem_take hx')) he
            · exact fre_ok ht xo (List.mem_of_mem_take he)
          have fewK := (few_nd ht c3 okK).2
          rw [show pmD iD (m1, y) = Dv.tup [.int (m1 : Nat), ndD iD y] from rfl]
          array_get_dec
          rw [show ndD iD y = Dv.tup [.int (y.1 : Nat), .tup (y.2.map iD)] from rfl]
          array_get_dec
          refine wp_hasI ?_
          array_get_dec
          have stepM : ∀ {Kq : List Nd}, (∀ z, z ∈ Kq ↔ z ∈ Kn' ∨ (hasO y = true ∧ y = z)) → ∀ z, z ∈ Kq ↔ z ∈ Kn ∨ ∃ e ∈ (freM t x).take j2 ++ [(m1, y)], hasO e.2 = true ∧ e.2 = z := fun hq z => by
            rw [hq z, c4 z]
            constructor
            · rintro ((q | ⟨e, he, q⟩) | ⟨q1, q2⟩)
              · exact .inl q
              · exact .inr ⟨e, List.mem_append_left _ he, q⟩
              · exact .inr ⟨(m1, y), List.mem_append_right _ (List.mem_singleton.mpr rfl), q1, q2⟩
            · rintro (q | ⟨e, he, q⟩)
              · exact .inl (.inl q)
              · rcases List.mem_append.mp he with he | he
                · exact .inl (.inr ⟨e, he, q⟩)
                · rw [List.mem_singleton.mp he] at q
                  exact .inr q
          cases hb : hasO y with
          | false =>
            refine ki_of (c := false) rfl ?_
            array_get_dec
            exact ⟨_, _, Kn', v', rfl, c1, c2, c3, stepM fun z => ⟨.inl, fun q => q.elim id fun q => by rw [hb] at q; cases q.1⟩, c5⟩
          | true =>
            refine ki_of (c := true) rfl ?_
            array_get_dec
            refine kg_set (F := FJ) (x := y) c2 (by omega) fun M9 d9 k9 l9 => ?_
            array_get_dec
            refine ⟨_, _, _, _, rfl, k9.at c1 (by show ¬ p = w; omega), d9, ?_, stepM fun z => ?_, c5.trans k9 fun _ _ e => e⟩
            · split
              · exact c3
              · rename_i hn
                rw [List.nodup_append]
                exact ⟨c3, by simp, fun a ha b hb e => hn (by rw [← List.mem_singleton.mp hb, ← e]; exact ha)⟩
            · split
              · rename_i hin
                exact ⟨.inl, fun q => q.elim id fun q => by rw [← q.2]; exact hin⟩
              · rw [List.mem_append, List.mem_singleton]
                exact ⟨fun q => q.elim .inl fun e => .inr ⟨hb, e.symm⟩, fun q => q.elim .inl fun e => .inr e.2.symm⟩
        · rintro env M8 ⟨z5, z6, Kn', v', rfl, c1, c2, c3, c4, c5⟩
          rw [List.length_map, List.take_length] at c4
          refine ⟨_, _, _, Kn', v', rfl, c5.at (k7.at b1 id) (by show ¬ ly = w; omega), c2, c3, fun y => ?_, (b5.trN k7).trans c5 fun _ _ e => e⟩
          rw [c4 y, b4 y]
          constructor
          · rintro (⟨x', hx', e, he, q⟩ | ⟨e, he, h1, q⟩)
            · exact ⟨x', List.mem_append_left _ hx', e, he, q⟩
            · exact ⟨x, List.mem_append_right _ (List.mem_singleton.mpr rfl), e, List.mem_filter.mpr ⟨he, h1⟩, q⟩
          · rintro ⟨x', hx', e, he, q⟩
            rcases List.mem_append.mp hx' with hx' | hx'
            · exact .inl ⟨x', hx', e, he, q⟩
            · rw [List.mem_singleton.mp hx'] at he
              exact .inr ⟨e, (List.mem_filter.mp he).1, (List.mem_filter.mp he).2, q⟩
      · rintro env M6 ⟨y4, y5, y6, Kn, v, rfl, b1, b2, b3, b4, b5⟩
        rw [List.length_map, List.take_length] at b4
        have okK : ∀ z ∈ Kn, okN t z := fun z hz => by
          obtain ⟨x', hx', e, he, rfl⟩ := (b4 z).mp hz
          exact ed_ok ht (ok x' hx') he
        array_get_dec
        refine wg_list (F := FJ) b2 ?_
        array_get_dec
        rename_i q M7 e7 g7 k7 l7
        have m5 : M4.length ≤ M5.length := k5.1
        have lay : Lay (edO t) L Kn := b4
        refine ⟨m - 1, by omega, _, _, _, _, q, Kn, j + 1, rfl, g7, (few_nd ht b3 okK).2, okK, fun k => ?_, .inr now, by omega, by omega, ((kk.trN k25).trans b5 fun a ha e => by have e' : a = w := e; omega).trN k7⟩
        rw [lay_step lay k, inv (k + 1), show j + (k + 1) = j + 1 + k by omega]
end L60

/-! text J0_60 -/
namespace L60
open PySem L2 PySem.Spec PyProof.Rows Zl
/-! comprehensions over a range that draw from the pool -/
def kLcJ (R : Dv → Dv → Prop) (p : Nat) (fe : FE) (env : En) (v : Nat) (vs : List Nat) (q : QE) : Src → Mem → Prop := fun src M1 => ∃ n : Nat, src = srcR 0 n ∧ n ≤ 10000 ∧ Pool p M1 ∧
  (∀ j : Nat, j < n → ∀ M', Kp (At p) M1 M' → M1.length < M'.length → Pool p M' → Wp (fe ((wipeE env vs).set v (some (.int (j : Nat)))) M') fun y M3 => R (.int (j : Nat)) y ∧ Kp (At p) M' M3 ∧ Pool p M3) ∧
  ∀ ys m M', m = M1.length → M1.length < M'.length → All2 R (intsR n) ys → Kp (At p) M1 M' → Pool p M' → M'[m]? = some (.lst ys) → q (.loc m) M'
theorem wq_lcJ {fi : FI} {fe : FE} {env : En} {M : Mem} {q : QE} {v : Nat} {vs : List Nat} (R : Dv → Dv → Prop) (p : Nat) (h : Wp (fi env M) (kLcJ R p fe env v vs q)) : Wp (fComp fi vs (gN v) fYes fe env M) q := by
  refine wp_lc R (At p) (Pool p) (h.go ?_)
  rintro src M1 ⟨n, rfl, hn, hp, he, hq⟩
  have pl := hp.lt
  refine ⟨intsR n, intsR_len.symm, by rw [intsR_len]; exact size_le (by omega), by simp only [At]; omega, fun i M' _ _ _ => rng_stp, hp.app, fun M' a b hh _ => hh.keep (by omega), ?_, ?_⟩
  · intro x hx M' k hl hj
    unfold intsR at hx
    obtain ⟨j, hj', rfl⟩ := List.mem_map.mp hx
    exact he j (List.mem_range.mp hj') M' k hl hj
  · intro ys M' ha k hj g
    exact hq ys _ M' rfl (lt_of g) ha k hj g
theorem k_lcJ {R : Dv → Dv → Prop} {p : Nat} {fe : FE} {env : En} {v n : Nat} {vs : List Nat} {q : QE} {M : Mem} (hn : n ≤ 10000) (hp : Pool p M)
    (he : ∀ j : Nat, j < n → ∀ M', Kp (At p) M M' → M.length < M'.length → Pool p M' → Wp (fe ((wipeE env vs).set v (some (.int (j : Nat)))) M') fun y M3 => R (.int (j : Nat)) y ∧ Kp (At p) M' M3 ∧ Pool p M3)
    (hq : ∀ ys m M', m = M.length → M.length < M'.length → All2 R (intsR n) ys → Kp (At p) M M' → Pool p M' → M'[m]? = some (.lst ys) → q (.loc m) M') : kLcJ R p fe env v vs q (srcR 0 n) M := ⟨n, rfl, hn, hp, he, hq⟩
theorem Pool.kpAt {p n : Nat} {M M' : Mem} (h : Pool p M) (k : Kp (fun m => m = n) M M') (e : p ≠ n) : Pool p M' := by
  obtain ⟨a, b, c, h⟩ := h
  exact ⟨a, b, c, k.at h e⟩
end L60

/-! text A1_60 -/
namespace L60
open PySem L2 PySem.Spec PyProof.Rows Zl
/-! tables -/
theorem sp_policyL {p : Nat} {l s : Nat} {M : Mem} (h : Pool p M) (hl : 1 ≤ l) (hl4 : l ≤ 4) (hs : 1 ≤ s) (hs2 : s ≤ 64) :
    Wp (m__law_policy [.loc p, .int (l : Nat), .int (s : Nat)] M) fun d M' => (∃ t, d = tabD t ∧ OkT t ∧ t.l = l ∧ t.rows.length = s) ∧ Pool p M' ∧ Kp (At p) M M' := by
  have hp := h.lt
  refine wp_fn rfl [some (.loc p), some (.int (l : Nat)), some (.int (s : Nat)), none, none, none, none] rfl ?_
  unfold b__law_policy
  clean_wf
  refine wp_for (fun i env M' => ∃ (x4 x5 : Option Dv) (rows : List Row), env = [some (.loc p), some (.int (l : Nat)), some (.int (s : Nat)), some (.loc M.length), x4, x5, none] ∧ rows.length = i ∧ M'[M.length]? = some (.lst (rows.map rowD)) ∧ (∀ r ∈ rows, OkR l s r) ∧ Pool p M' ∧ Kp (At p) M M') ?_
  clean_wf
  refine ⟨_, rfl, by omega, ⟨none, none, [], rfl, rfl, at_new, fun r hr => by simp at hr, h.app, .app _⟩, ?_, ?_⟩
  · rintro i env M' hi ⟨x4, x5, rows, rfl, h1, h2, h3, h4, h5⟩
    refine ⟨_, rng_go hi, ?_⟩
    clean_wf
    refine wp_lc (fun _ y => ∃ r : Nat, y = Dv.int r ∧ (r : Int) < s) (At p) (Pool p) ?_
    clean_wf
    refine ⟨_, rfl, by omega, intsR l, intsR_len.symm, by rw [intsR_len]; show _ ≤ 2 ^ 24; omega, ?_, fun i M' _ _ _ => rng_stp, h4.app, fun M' a b hh _ => hh.keep ?_, ?_, ?_⟩
    · have := h4.lt; intro e; omega
    · have := h4.lt; omega
    · intro x hx M2 hk hl2 hj
      clean_wf
      refine (sp_draw hj (by omega) (by omega)).go fun d M3 ⟨a, b, c⟩ => ⟨a, c, b⟩
    · intro ys M2 ha hk hj hy
      obtain ⟨ns, rfl, n1, n2⟩ := nats_of ha
      have n1' : ns.length = l := n1.trans intsR_len
      have g2 := hk.at h2 (by omega)
      clean_wf
      refine wp_tupL hy ?_
      clean_wf
      refine ⟨ty_lst g2, ?_⟩
      clean_wf
      refine (sp_draw hj (by omega) (by omega)).go fun d1 M3 ⟨⟨r1, e1, f1⟩, b1, c1⟩ => ?_
      subst e1
      clean_wf
      refine (sp_draw b1 (by omega) (by omega)).go fun d2 M4 ⟨⟨r2, e2, f2⟩, b2, c2⟩ => ?_
      subst e2
      clean_wf
      have g4 := c2.at (c1.at g2 (by omega)) (by omega)
      refine wp_append g4 (by simp [h1]; show _ < 2 ^ 24; have : i < s := hi; omega) ?_
      clean_wf
      refine ⟨_, _, rows ++ [⟨r1, r2, ns⟩], rfl, by simp [h1], ?_, ?_, b2.keep (by omega), ?_⟩
      · rw [at_set g4, List.map_append]; rfl
      · intro r hr
        rcases List.mem_append.mp hr with hr | hr
        · exact h3 r hr
        · have e : r = ⟨r1, r2, ns⟩ := by simpa using hr
          subst e
          exact ⟨by show r1 < l; omega, by show r2 < s; omega, n1', n2⟩
      · exact (((h5.tr hk).tr c1).tr c2).trans (Kp.set (W := fun n => n = M.length) fun _ => rfl) (fun n hn e => by omega)
  · rintro env M' ⟨x4, x5, rows, rfl, h1, h2, h3, h4, h5⟩
    refine ⟨rng_end, ?_⟩
    clean_wf
    refine wp_tupL h2 ?_
    clean_wf
    have e : rows.length = s := h1
    exact ⟨⟨⟨l, rows⟩, rfl, ⟨hl, hl4, by show 1 ≤ rows.length; omega, by show rows.length ≤ 64; omega, fun r hr => by rw [show (Tb.mk l rows).rows.length = s from e]; exact h3 r hr⟩, rfl, e⟩, h4, h5⟩
theorem sp_policy {p : Nat} {l s : Nat} {M : Mem} (h : Pool p M) (hl : 1 ≤ l) (hl4 : l ≤ 4) (hs : 1 ≤ s) (hs2 : s ≤ 64) :
    Wp (m__law_policy [.loc p, .int (l : Nat), .int (s : Nat)] M) fun d M' => (∃ t, d = tabD t ∧ OkT t) ∧ Pool p M' ∧ Kp (At p) M M' :=
  (sp_policyL h hl hl4 hs hs2).go fun d M' ⟨⟨t, e, ok, _⟩, b, c⟩ => ⟨⟨t, e, ok⟩, b, c⟩
end L60

/-! text A3_60 -/
namespace L60
open PySem L2 PySem.Spec PyProof.Rows Zl
/-! the queue -/
def queueT (l : Nat) : Tb := ⟨l, (List.range l).map fun a => ⟨a, (a + 1) % l, List.replicate l a⟩⟩
theorem rep_tup {l a : Nat} : (List.replicate l [Dv.int (a : Nat)]).flatten = intsN (List.replicate l a) := by
  induction l with
  | zero => rfl
  | succ n ih => rw [List.replicate_succ, List.flatten_cons, ih]; rfl
theorem sp_queue {l : Nat} {M : Mem} (hl : 1 ≤ l) (hl4 : l ≤ 4) : Wp (m__law_queue [.int (l : Nat)] M) fun d M' => d = tabD (queueT l) ∧ Kp NoW M M' := by
  refine wp_fn rfl [some (.int (l : Nat)), none] rfl ?_
  unfold b__law_queue
  simp_wf
  refine wp_lcP (fun x => match x with | .int i => rowD ⟨i.toNat, (i.toNat + 1) % l, List.replicate l i.toNat⟩ | _ => .non) ?_
  simp_wf
  refine ⟨_, rfl, by omega, intsR l, intsR_len.symm, by rw [intsR_len]; show _ ≤ 2 ^ 24; omega, fun i M' _ _ => rng_stp, ?_, ?_⟩
  · intro x hx M1 k1
    obtain ⟨a, ha, rfl⟩ := List.mem_map.mp hx
    simp_wf
    refine wp_modI (by omega) ?_
    simp_wf
    refine wp_mulT (by show 1 * _ ≤ _; omega) (by omega) ?_
    simp_wf
    refine ⟨?_, .refl⟩
    simp only [Int.toNat_natCast, rep_tup, rowD]
    rfl
  · intro M1 k1 g1
    simp_wf
    refine wp_tupL g1 ?_
    simp_wf
    refine ⟨?_, k1⟩
    simp only [tabD, queueT, intsR, List.map_map]
    congr 3
theorem queue_ok {l : Nat} (hl : 1 ≤ l) (hl4 : l ≤ 4) : OkT (queueT l) := by
  refine ⟨hl, hl4, by simpa [queueT] using hl, by simp [queueT]; omega, fun r hr => ?_⟩
  obtain ⟨a, ha, rfl⟩ := List.mem_map.mp hr
  have ha' : a < l := by simpa using ha
  refine ⟨ha', by simp only [queueT, List.length_map, List.length_range]; exact Nat.mod_lt _ (by omega), by simp [queueT], fun h hh => ?_⟩
  have : h = a := (List.mem_replicate.mp hh).2
  subst this
  simpa [queueT] using ha'
/-! the least recently used -/
def goalsN (l : Nat) (here : List Nat) : List (List Nat) := (List.range l).map fun line => (here.filter fun s => s != line) ++ [line]
def nextN (l i : Nat) (p : List (List Nat) × List Row) : List (List Nat) × List Row :=
  let here := p.1.getD i []
  let gs := goalsN l here
  let os := p.1 ++ gs.filter fun g => !p.1.contains g
  (os, p.2 ++ [⟨here.headD 0, os.idxOf (gs.getD (here.headD 0) []), gs.map os.idxOf⟩])
def recN (l : Nat) : Nat → List (List Nat) × List Row
  | 0 => ([List.range l], [])
  | i + 1 => nextN l i (recN l i)
def factN : Nat → Nat
  | 1 => 1
  | 2 => 2
  | 3 => 6
  | _ => 24
def recT (l : Nat) : Tb := ⟨l, (recN l (factN l)).2⟩
def ordD (o : List Nat) : Dv := .tup (intsN o)
def ordP (o : List Nat) : PyData := .tuple (o.map fun n => .int (n : Nat))
theorem rd_ints {M : Mem} {k : Nat} : ∀ o : List Nat, rdL (rd M k) (intsN o) = some (o.map fun n => PyData.int (n : Nat))
  | [] => rfl
  | n :: o => by
    show (match rd M k (.int (n : Nat)) with | none => none | some p => match rdL (rd M k) (intsN o) with | none => none | some ps => some (p :: ps)) = _
    rw [rd_ints o]
    cases k <;> rfl
theorem rd_ord {M : Mem} (o : List Nat) : rd M deep (ordD o) = some (ordP o) := by
  show (match rdL (rd M 29) (intsN o) with | some ps => some (PyData.tuple ps) | none => none) = _
  rw [rd_ints]; rfl
theorem rd_ords {M : Mem} : ∀ os : List (List Nat), rdL (rd M deep) (os.map ordD) = some (os.map ordP)
  | [] => rfl
  | o :: os => by
    show (match rd M deep (ordD o) with | none => none | some p => match rdL (rd M deep) (os.map ordD) with | none => none | some ps => some (p :: ps)) = _
    rw [rd_ord, rd_ords os]; rfl
theorem lay_ints : ∀ o : List Nat, PyData.canLayAll0 (o.map fun n => PyData.int (n : Nat)) = true ∧ PyData.depthAll (o.map fun n => PyData.int (n : Nat)) = 0
  | [] => ⟨rfl, rfl⟩
  | n :: o => by
    obtain ⟨h1, h2⟩ := lay_ints o
    refine ⟨?_, ?_⟩
    · rw [List.map_cons]; unfold PyData.canLayAll0; rw [h1]; rfl
    · rw [List.map_cons]; unfold PyData.depthAll; rw [h2]; rfl
theorem lay_ord (o : List Nat) : (ordP o).canLay0 = true ∧ (ordP o).depth = 1 := by
  obtain ⟨h1, h2⟩ := lay_ints o
  unfold ordP
  refine ⟨by unfold PyData.canLay0; exact h1, by unfold PyData.depth; rw [h2]⟩
theorem shaped_ord (o : List Nat) : SeqAt.shaped (ordP o) = true := by
  obtain ⟨h1, h2⟩ := lay_ord o
  unfold SeqAt.shaped
  rw [h1, h2]; rfl
theorem lay_ords : ∀ os : List (List Nat), PyData.canLayAll0 (os.map ordP) = true ∧ PyData.depthAll (os.map ordP) ≤ 1
  | [] => ⟨rfl, by decide⟩
  | o :: os => by
    obtain ⟨h1, h2⟩ := lay_ords os
    obtain ⟨h3, h4⟩ := lay_ord o
    refine ⟨?_, ?_⟩
    · rw [List.map_cons]; unfold PyData.canLayAll0; rw [h1, h3]; rfl
    · rw [List.map_cons]; unfold PyData.depthAll; rw [h4]; omega
theorem shaped_ords (os : List (List Nat)) : SeqAt.shaped (.list (os.map ordP)) = true := by
  obtain ⟨h1, h2⟩ := lay_ords os
  unfold SeqAt.shaped
  unfold PyData.canLay0 PyData.depth
  rw [h1, Bool.true_and, decide_eq_true_eq]; omega
theorem eqv_ints : ∀ a b : List Nat, PyData.eqvAll (a.map fun n => PyData.int (n : Nat)) (b.map fun n => PyData.int (n : Nat)) = (a == b)
  | [], [] => rfl
  | [], _ :: _ => rfl
  | _ :: _, [] => rfl
  | x :: a, y :: b => by
    rw [List.map_cons, List.map_cons]
    unfold PyData.eqvAll
    rw [eqv_ints a b]
    unfold PyData.eqv
    rw [List.cons_beq_cons]
    congr 1
    by_cases h : x = y
    · subst h; simp
    · have h2 : ¬ ((x : Int) = (y : Int)) := by omega
      rw [beq_eq_false_iff_ne.mpr h, beq_eq_false_iff_ne.mpr h2]
theorem eqv_ord (a b : List Nat) : PyData.eqv (ordP a) (ordP b) = (a == b) := by
  unfold ordP PyData.eqv
  exact eqv_ints a b
theorem wp_notin {M : Mem} {n : Nat} {g : List Nat} {os : List (List Nat)} {q : QE} (h : M[n]? = some (.lst (os.map ordD))) (k : q (.bl (!os.contains g)) M) : Wp (inE true (ordD g) (.loc n) M) q := by
  refine wp_ev ?_ k
  unfold inE; simp only [h]; unfold inD
  simp only [h]
  rw [if_neg (by simp [ordD, flatD]), rd_ord, rd_ords]
  simp only
  rw [if_pos ⟨shaped_ord g, shaped_ords os⟩]
  congr 4
  rw [Bool.true_xor]
  congr 1
  rw [List.any_map, List.contains_eq_any_beq]
  congr 1
  funext z
  show PyData.eqv (ordP z) (ordP g) = _
  rw [eqv_ord]
  by_cases e : z = g
  · subst e; simp
  · rw [beq_eq_false_iff_ne.mpr e, beq_eq_false_iff_ne.mpr (Ne.symm e)]
theorem wp_index {M : Mem} {n : Nat} {g : List Nat} {os : List (List Nat)} {q : QE} (h : M[n]? = some (.lst (os.map ordD))) (hg : g ∈ os) (k : q (.int (os.idxOf g : Nat)) M) : Wp (indexD (.loc n) [ordD g] M) q := by
  refine wp_ev ?_ k
  unfold indexD
  simp only [h]
  rw [if_neg (by simp [ordD, flatD]), rd_ord, rd_ords]
  simp only
  rw [if_pos ⟨shaped_ord g, shaped_ords os⟩]
  have e : (os.map ordP).findIdx? (fun z => PyData.eqv z (ordP g)) = some (os.idxOf g) := by
    rw [List.findIdx?_map]
    have e1 : ((fun z => PyData.eqv z (ordP g)) ∘ ordP) = fun z => z == g := by funext z; exact eqv_ord z g
    rw [e1]
    show os.findIdx? (fun z => z == g) = some (os.idxOf g)
    have e2 : os.findIdx (fun z => z == g) < os.length := List.findIdx_lt_length_of_exists ⟨g, hg, by simp⟩
    rw [List.findIdx?_eq_some_iff_findIdx_eq]
    exact ⟨e2, rfl⟩
  rw [e]

def unN (ys : List Dv) : List Nat := ys.map fun y => match y with
  | .int z => z.toNat
  | _ => 0
theorem unN_ints : ∀ o : List Nat, unN (intsN o) = o
  | [] => rfl
  | n :: o => by
    have := unN_ints o
    unfold unN intsN at this ⊢
    rw [List.map_cons, List.map_cons, this]
    simp
theorem map_ord {xs : List Nat} : ordD xs = .tup (intsN xs) := rfl
theorem sp_recent {l : Nat} {M : Mem} (hl : 1 ≤ l) (hl4 : l ≤ 4) : Wp (m__law_recent [.int (l : Nat)] M) fun d M' => d = tabD (recT l) ∧ Kp NoW M M' := by
  have facts : ∀ l, 1 ≤ l → l ≤ 4 → factN l ≤ 24 ∧ (recN l (factN l)).1.length = factN l ∧ ∀ i, i < factN l → i < (recN l i).1.length ∧ ((recN l i).1.getD i []).headD 0 < l ∧ ((recN l i).1.getD i []) ≠ [] ∧ (recN l i).1.length ≤ 100 ∧ ((recN l i).1.getD i []).length ≤ 4 := by
    intro l h1 h4
    match l, h1, h4 with
    | 1, _, _ => decide +kernel
    | 2, _, _ => decide +kernel
    | 3, _, _ => decide +kernel
    | 4, _, _ => decide +kernel
  obtain ⟨f1, f2, f3⟩ := facts l hl hl4
  refine wp_fn rfl [some (.int (l : Nat)), none, none, none, none, none, none, none, none] rfl ?_
  unfold b__law_recent
  simp_wf
  refine wp_tupR ?_
  simp_wf
  refine ⟨l, rfl, by omega, ?_⟩
  simp_wf
  intro o M1 e1 g1 k1 l1
  simp_wf
  intro r M2 e2 g2 k2 l2
  have g1' := k2.at g1 id
  simp_wf
  refine wp_whileI (fun m env M' => ∃ (i : Nat) (x4 x5 : Option Dv), m = factN l - i ∧ i ≤ factN l ∧ env = [some (.int (l : Nat)), some (.loc o), some (.loc r), some (.int (i : Nat)), x4, x5, none, none, none] ∧
    M'[o]? = some (.lst ((recN l i).1.map ordD)) ∧ M'[r]? = some (.lst ((recN l i).2.map rowD)) ∧ Kp NoW M M') ?_ 1000000 (factN l) _ _ (by omega) ⟨0, none, none, by omega, by omega, rfl, g1', g2, k1.tr k2⟩
  rintro m env M' ⟨i, x4, x5, rfl, hi, rfl, a1, a2, a3⟩
  simp_wf
  refine wp_lenL a1 ?_
  simp_wf
  by_cases hlt : i < factN l
  · obtain ⟨b1, b2, b3, b4, b5⟩ := f3 i hlt
    have hd : (decide ((i : Int) < (((recN l i).1.map ordD).length : Nat))) = true := decide_eq_true (by rw [List.length_map]; omega)
    rw [hd]
    generalize hos : (recN l i).1 = os at *
    generalize hhe : os.getD i [] = here at *
    have hget : os[i]? = some here := by
      rw [← hhe, List.getD_eq_getElem?_getD]
      rw [List.getElem?_eq_getElem b1]; rfl
    simp_wf
    refine wp_ixL a1 (atI_n (x := ordD here) (by rw [List.getElem?_map, hget]; rfl)) ?_
    simp_wf
    refine wp_lcP (fun x => match x with | .int z => ordD ((here.filter fun s => s != z.toNat) ++ [z.toNat]) | _ => .non) ?_
    simp_wf
    refine ⟨_, rfl, by omega, intsR l, intsR_len.symm, by rw [intsR_len]; show _ ≤ 2 ^ 24; omega, fun i M' _ _ => rng_stp, ?_, ?_⟩
    · intro x hx M3 k3
      obtain ⟨a, ha, rfl⟩ := List.mem_map.mp hx
      simp_wf
      refine wp_lcF (fun y => match y with | .int z => z != (a : Int) | _ => false) (fun y => y) ?_
      simp_wf
      refine ⟨_, rfl, intsN here, rfl, by simp [intsN]; show _ ≤ 2 ^ 24; omega, fun _ _ _ _ => rfl, ?_, ?_, ?_⟩
      · intro y hy M4 k4
        obtain ⟨b, hb, rfl⟩ := List.mem_map.mp hy
        simp_wf
        refine ⟨?_, .refl⟩
        rw [Bool.true_xor]; rfl
      · intro y hy M4 k4
        obtain ⟨b, hb, rfl⟩ := List.mem_map.mp hy
        simp_wf
        exact ⟨rfl, .refl⟩
      · intro M4 k4 g4
        simp_wf
        refine wp_tupL g4 ?_
        simp_wf
        refine wp_addT ?_ ?_
        · rw [List.map_id']
          have := List.length_filter_le (fun y : Dv => match y with | .int z => z != (a : Int) | _ => false) (intsN here)
          have h2 : (intsN here).length = here.length := by simp [intsN]
          simp only [List.length_cons, List.length_nil]
          omega
        · refine ⟨?_, k4⟩
          rw [List.map_id']
          simp only [Int.toNat_natCast, ordD, intsN, List.map_append, List.map_cons, List.map_nil]
          congr 2
          rw [List.filter_map]
          congr 1
          apply List.filter_congr
          intro s _
          show ((s : Int) != (a : Int)) = (s != a)
          by_cases e : s = a
          · subst e; simp
          · have e2 : ¬ ((s : Int) = (a : Int)) := by omega
            rw [bne_iff_ne.mpr e, bne_iff_ne.mpr e2]
    · intro M3 k3 g3
      have gs1 : (intsR l).map (fun x => match x with | .int z => ordD ((here.filter fun s => s != z.toNat) ++ [z.toNat]) | _ => .non) = (goalsN l here).map ordD := by
        unfold intsR goalsN
        rw [List.map_map, List.map_map]
        apply List.map_congr_left
        intro a _
        simp
      rw [gs1] at g3
      have gl : (goalsN l here).length = l := by simp [goalsN]
      generalize hgs : goalsN l here = gs at *
      generalize hg : M'.length = g at *
      have hrl := lt_of a2
      have hol := lt_of a1
      have a1' := k3.at a1 id
      have a2' := k3.at a2 id
      simp_wf
      refine ⟨ty_lst a1', ?_⟩
      simp_wf
      refine wp_lcF (fun y => match y with | .tup z => !os.contains (unN z) | _ => false) (fun y => y) ?_
      simp_wf
      refine ⟨_, src_loc g3, gs.map ordD, rfl, by rw [List.length_map, gl]; show _ ≤ 2 ^ 24; omega, fun i M'' k _ => stpL_at (k.at g3 id), ?_, ?_, ?_⟩
      · intro y hy M4 k4
        obtain ⟨b, hb, rfl⟩ := List.mem_map.mp hy
        simp_wf
        refine wp_notin (k4.at a1' id) ?_
        simp_wf
        refine ⟨?_, .refl⟩
        simp only [ordD, unN_ints]
      · intro y hy M4 k4
        simp_wf
        exact ⟨rfl, .refl⟩
      · intro M4 k4 g4
        have fe : ((gs.map ordD).filter fun y => match y with | .tup z => !os.contains (unN z) | _ => false) = (gs.filter fun g => !os.contains g).map ordD := by
          rw [List.filter_map]
          congr 1
          apply List.filter_congr
          intro s _
          simp only [Function.comp, ordD, unN_ints]
        rw [List.map_id', fe] at g4
        have fl := List.length_filter_le (fun g => !os.contains g) gs
        generalize hnw : (gs.filter fun g => !os.contains g) = nw at *
        have a1'' := k4.at a1' id
        have a2'' := k4.at a2' id
        have g3'' := k4.at g3 id
        simp_wf
        refine wp_extend a1'' g4 (by rw [List.length_map, List.length_map]; omega) ?_
        have n1 := lt_of a1''
        have h5 : (M4.set o (.lst (os.map ordD ++ nw.map ordD)))[o]? = some (.lst ((os ++ nw).map ordD)) := by rw [at_set a1'', List.map_append]
        have h6 : (M4.set o (.lst (os.map ordD ++ nw.map ordD)))[r]? = some (.lst ((recN l i).2.map rowD)) := at_set_ne a2'' (by omega)
        have h7 : (M4.set o (.lst (os.map ordD ++ nw.map ordD)))[g]? = some (.lst (gs.map ordD)) := at_set_ne g3'' (by omega)
        have h8 : Kp NoW M (M4.set o (.lst (os.map ordD ++ nw.map ordD))) := ((a3.tr k3).tr k4).trans (Kp.set (W := At o) fun _ => rfl) (fun n hn e => by simp only [At] at e; omega)
        generalize M4.set o (.lst (os.map ordD ++ nw.map ordD)) = M5 at *
        have mem : ∀ z ∈ gs, z ∈ os ++ nw := by
          intro z hz
          by_cases hc : z ∈ os
          · exact List.mem_append_left _ hc
          · refine List.mem_append_right _ ?_
            rw [← hnw, List.mem_filter]
            refine ⟨hz, ?_⟩
            simpa using hc
        obtain ⟨h0, ht, rfl⟩ : ∃ h0 ht, here = h0 :: ht := by
          cases here with
          | nil => exact absurd rfl b3
          | cons a b => exact ⟨a, b, rfl⟩
        have b2' : h0 < l := b2
        have hgh : gs[h0]? = some (gs.getD h0 []) := by
          rw [List.getD_eq_getElem?_getD, List.getElem?_eq_getElem (by omega)]; rfl
        simp_wf
        refine ⟨ty_lst h6, ?_⟩
        simp_wf
        refine wp_ixT (xs := intsN (h0 :: ht)) (x := .int (h0 : Nat)) (atI_n (j := 0) rfl) ?_
        simp_wf
        refine wp_or1 ?_
        simp_wf
        refine ⟨ty_lst h5, ?_⟩
        simp_wf
        refine wp_ixT (xs := intsN (h0 :: ht)) (x := .int (h0 : Nat)) (atI_n (j := 0) rfl) ?_
        simp_wf
        refine wp_ixL h7 (atI_n (x := ordD (gs.getD h0 [])) (by rw [List.getElem?_map, hgh]; rfl)) ?_
        simp_wf
        refine wp_index h5 (mem _ (List.mem_of_getElem? hgh)) ?_
        simp_wf
        refine wp_lcP (fun y => match y with | .tup z => .int ((os ++ nw).idxOf (unN z) : Nat) | _ => .non) ?_
        simp_wf
        refine ⟨_, src_loc h7, gs.map ordD, rfl, by rw [List.length_map, gl]; show _ ≤ 2 ^ 24; omega, fun i M'' k _ => stpL_at (k.at h7 id), ?_, ?_⟩
        · intro y hy M6 k6
          obtain ⟨b, hb, rfl⟩ := List.mem_map.mp hy
          refine wp_or1 ?_
          simp_wf
          refine ⟨ty_lst (k6.at h5 id), ?_⟩
          simp_wf
          refine wp_index (k6.at h5 id) (mem _ hb) ?_
          refine ⟨?_, .refl⟩
          simp only [ordD, unN_ints]
        · intro M6 k6 g6
          simp_wf
          refine wp_tupL g6 ?_
          simp_wf
          have q1 := k6.at h5 id
          have q2 := k6.at h6 id
          have hrows : ∀ j, (recN l j).2.length = j := by
            intro j
            induction j with
            | zero => rfl
            | succ j ih =>
              show (nextN l j (recN l j)).2.length = j + 1
              unfold nextN
              simp [ih]
          refine wp_append q2 (by rw [List.length_map, hrows]; show _ < 2 ^ 24; omega) ?_
          simp_wf
          refine ⟨factN l - (i + 1), by omega, i + 1, _, _, rfl, by omega, rfl, ?_, ?_, (h8.tr k6).trans (Kp.set (W := At r) fun _ => rfl) (fun n hn e => by simp only [At] at e; omega)⟩
          · rw [at_set_ne q1 (by omega)]
            have : (recN l (i + 1)).1 = os ++ nw := by
              show (nextN l i (recN l i)).1 = _
              unfold nextN
              simp only [hos, hhe, hgs, hnw]
            rw [this]
          · rw [at_set q2]
            have : (recN l (i + 1)).2 = (recN l i).2 ++ [⟨h0, (os ++ nw).idxOf (gs.getD h0 []), gs.map (os ++ nw).idxOf⟩] := by
              show (nextN l i (recN l i)).2 = _
              unfold nextN
              simp only [hos, hhe, hgs, hnw, List.headD_cons]
            rw [this, List.map_append]
            congr 3
            simp only [List.map_cons, List.map_nil, rowD, intsN, List.map_map]
            congr 4
            refine congrArg (fun z => [Dv.tup z]) ?_
            apply List.map_congr_left
            intro z _
            simp only [Function.comp, ordD, unN_ints]
  · have e : i = factN l := by omega
    subst e
    have hd : (decide (((factN l : Nat) : Int) < (((recN l (factN l)).1.map ordD).length : Nat))) = false := decide_eq_false (by rw [List.length_map, f2]; omega)
    rw [hd]
    simp_wf
    refine wp_tupL a2 ?_
    simp_wf
    exact ⟨rfl, a3⟩

instance {l n : Nat} {r : Row} : Decidable (OkR l n r) := by unfold OkR; exact inferInstance
theorem rec_ok {l : Nat} (hl : 1 ≤ l) (hl4 : l ≤ 4) : OkT (recT l) := by
  have facts : ∀ l, 1 ≤ l → l ≤ 4 → 1 ≤ (recT l).rows.length ∧ (recT l).rows.length ≤ 64 ∧ ∀ r ∈ (recT l).rows, OkR (recT l).l (recT l).rows.length r := by
    intro l h1 h4
    match l, h1, h4 with
    | 1, _, _ => decide +kernel
    | 2, _, _ => decide +kernel
    | 3, _, _ => decide +kernel
    | 4, _, _ => decide +kernel
  obtain ⟨a, b, c⟩ := facts l hl hl4
  exact ⟨hl, hl4, a, b, c⟩
end L60

/-! text Fl5_60 -/
namespace L60
open PySem L2 PySem.Spec PyProof.Rows Zl
/-! ## asked -/
def oP : Option Nat → PyData
  | none => .none
  | some n => .int (n : Nat)
theorem rd_o {M : Mem} {k : Nat} (o : Option Nat) : rd M k (optD o) = some (oP o) := by
  rcases o with _ | n <;> cases k <;> rfl
theorem sm_o {k : Nat} {o : Option Nat} (h : ∀ v, o = some v → v ≤ 3000) : Sm k 1 (oP o) := by
  rcases o with _ | n
  · exact ⟨rfl, Nat.zero_le _, rfl, rfl, rfl, Nat.zero_le _⟩
  · exact sm_nat (h n rfl)
def MidT (t : Tb) : Prop := OkT t ∧ 3 ^ t.l * t.rows.length ≤ 3000
theorem fg_mid {t : Tb} (h : MidT t) {o : Option Nat} (q : FgS (edO t) (StP t) o) : ∀ v, o = some v → v ≤ 3000 := fun v e => by
  subst e
  exact Nat.le_trans (fg_small h.1 q) h.2
theorem sp_asked {t : Tb} {M : Mem} (h : MidT t) : Wp (m__law_asked [tabD t] M) fun d M' => d = .bl true ∧ Kp NoW M M' := by
  have ht := h.1
  refine wp_fn rfl [some (tabD t)] rfl ?_
  unfold b__law_asked
  array_get_dec
  refine (sp_forgets ht).go ?_
  rintro _ M1 ⟨o, rfl, f1, k1⟩
  array_get_dec
  refine wp_callK ?_
  array_get_dec
  refine ⟨⟨rfl, rfl⟩, ?_⟩
  refine (sp_forgets ht).go ?_
  rintro _ M2 ⟨o2, rfl, f2, k2⟩
  cases fg_uniq f2 f1
  array_get_dec
  refine (sp_forgets ht).go ?_
  rintro _ M3 ⟨o3, rfl, f3, k3⟩
  cases fg_uniq f3 f1
  array_get_dec
  rename_i n4 M4 e4 g4 k4 l4
  have s1 := fg_mid h f1
  have sL : Sm 1 6 (.list [oP o, oP o, oP o]) := (sm_list (smA_cons (sm_o (k := 0) s1) (smA_cons (sm_o s1) (smA_cons (sm_o s1) (smA_nil (n := 0)))))).mono (by omega) (by omega)
  have rL : ∀ {Mx : Mem} {nx : Nat}, Mx[nx]? = some (.lst [optD o, optD o, optD o]) → rd Mx deep (.loc nx) = some (.list [oP o, oP o, oP o]) := fun hx => rd_loc (n := 29) hx (rdL_cons (rd_o o) (rdL_cons (rd_o o) (rdL_cons (rd_o o) rdL_nil)))
  obtain ⟨s, hs⟩ : ∃ s, (PyData.list [oP o, oP o, oP o]).shown = s := ⟨_, rfl⟩
  refine wq_repr rfl (rL g4) sL (by omega) (by omega) ?_
  rw [hs]
  array_get_dec
  refine (sp_lforgotten ht).go ?_
  rintro _ M5 ⟨o5, rfl, f5, k5⟩
  cases fg_uniq f5 f1
  array_get_dec
  rename_i n6 M6 e6 g6 k6 l6
  refine wq_mulL (k := 3) g6 (by show 1 ≤ 16; decide) (by omega) ?_
  array_get_dec
  rename_i n7 M7 e7 g7 k7 l7
  rw [show (List.replicate 3 [optD o]).flatten = [optD o, optD o, optD o] from rfl] at g7
  refine wq_repr rfl (rL g7) sL (by omega) (by omega) ?_
  rw [hs]
  clear hs
  array_get_dec
  refine ⟨by rw [beq_self_eq_true]; rfl, ((((((k1.trN k2).trN k3).trN k4).trN k5).trN k6).trN k7)⟩
theorem mid_rec {l : Nat} (h1 : 1 ≤ l) (h3 : l ≤ 3) : MidT (recT l) := by
  refine ⟨rec_ok h1 (by omega), ?_⟩
  have : l = 1 ∨ l = 2 ∨ l = 3 := by omega
  rcases this with rfl | rfl | rfl <;> decide +kernel
theorem mid_queue {l : Nat} (h1 : 1 ≤ l) (h3 : l ≤ 3) : MidT (queueT l) := by
  refine ⟨queue_ok h1 (by omega), ?_⟩
  have : l = 1 ∨ l = 2 ∨ l = 3 := by omega
  rcases this with rfl | rfl | rfl <;> decide +kernel
theorem mid_pol {t : Tb} (h : OkT t) (q : (t.l ≤ 3 ∧ t.rows.length ≤ 100) ∨ t.rows.length ≤ 37) : MidT t := by
  refine ⟨h, ?_⟩
  have l4 := h.l4
  have p4 := pow3 l4
  rcases q with ⟨q1, q2⟩ | q
  · exact Nat.le_trans (Nat.mul_le_mul (Nat.pow_le_pow_right (by decide : 0 < 3) q1) q2) (by decide)
  · exact Nat.le_trans (Nat.mul_le_mul p4 q) (by decide)
theorem sp_table {p : Nat} {M : Mem} (h : Pool p M) : Wp (m__law_table [.loc p] M) fun d M' => (∃ t, d = tabD t ∧ MidT t) ∧ Pool p M' ∧ Kp (At p) M M' := by
  refine wp_fn rfl [some (.loc p), none, none, none] rfl ?_
  unfold b__law_table
  array_get_dec
  refine (sp_draw h (by decide) (by decide)).go ?_
  rintro _ M1 ⟨⟨a, rfl, ha⟩, P1, k1⟩
  array_get_dec
  rw [show (1 : Int) + (a : Nat) = ((1 + a : Nat) : Int) by omega]
  refine (sp_recent (by omega) (by omega)).go ?_
  rintro _ M2 ⟨rfl, k2⟩
  array_get_dec
  refine (sp_queue (by omega) (by omega)).go ?_
  rintro _ M3 ⟨rfl, k3⟩
  array_get_dec
  rename_i n4 M4 e4 g4 k4 l4
  have P4 := ((P1.kp k2).kp k3).kp k4
  refine (sp_draw P4 (by decide) (by decide)).go ?_
  rintro _ M5 ⟨⟨b, rfl, hb⟩, P5, k5⟩
  array_get_dec
  rw [show (1 : Int) + (b : Nat) = ((1 + b : Nat) : Int) by omega]
  refine (sp_policyL P5 (by omega) (by omega) (by omega) (by omega)).go ?_
  rintro _ M6 ⟨⟨t, rfl, ok, tl, tr⟩, P6, k6⟩
  have np : n4 ≠ p := by have := P1.lt; have := k2.1; have := k3.1; omega
  have g6 := k6.at (k5.at g4 np) np
  array_get_dec
  rename_i n7 M7 e7 g7 k7 l7
  refine wq_mulL (k := 5) g7 (by show 1 ≤ 16; decide) (by omega) ?_
  array_get_dec
  rename_i n8 M8 e8 g8 k8 l8 n9 M9 e9 g9 k9 l9
  have P9 := ((P6.kp k7).kp k8).kp k9
  refine (sp_draw P9 (by decide) (by decide)).go ?_
  rintro _ MA ⟨⟨c, rfl, hc⟩, PA, kA⟩
  have np9 : n9 ≠ p := by have := P6.lt; have := k7.1; have := k8.1; omega
  have gA := kA.at g9 np9
  have kk : Kp (At p) M MA := (((((((((k1.trN k2).trN k3).trN k4).tr k5).tr k6).trN k7).trN k8).trN k9).tr kA)
  have mt : MidT t := mid_pol ok (.inl ⟨by omega, by omega⟩)
  have pick : ∃ t', MidT t' ∧ ([tabD (recT (1 + a)), tabD (queueT (1 + a))] ++ [tabD t, tabD t, tabD t, tabD t, tabD t])[c]? = some (tabD t') := by
    have hc' : c < 7 := by have : ((c : Nat) : Int) < 7 := hc; omega
    have : c = 0 ∨ c = 1 ∨ c = 2 ∨ c = 3 ∨ c = 4 ∨ c = 5 ∨ c = 6 := by omega
    rcases this with rfl | rfl | rfl | rfl | rfl | rfl | rfl
    · exact ⟨_, mid_rec (by omega) (by omega), rfl⟩
    · exact ⟨_, mid_queue (by omega) (by omega), rfl⟩
    · exact ⟨t, mt, rfl⟩
    · exact ⟨t, mt, rfl⟩
    · exact ⟨t, mt, rfl⟩
    · exact ⟨t, mt, rfl⟩
    · exact ⟨t, mt, rfl⟩
  obtain ⟨t', m', e'⟩ := pick
  refine wp_ixL gA (atI_n e') ?_
  array_get_dec
  exact ⟨⟨t', rfl, m'⟩, PA, kk⟩
theorem tabs_of : ∀ {xs ys : List Dv}, All2 (fun _ y => ∃ t, y = tabD t ∧ MidT t) xs ys → ∃ ts : List Tb, ys = ts.map tabD ∧ ts.length = xs.length ∧ ∀ t ∈ ts, MidT t := by
  intro xs ys h
  induction h with
  | nil => exact ⟨[], rfl, rfl, fun t ht => (by cases ht)⟩
  | cons hr _ ih =>
    obtain ⟨t, e, ht⟩ := hr
    obtain ⟨ts, e2, l2, h2⟩ := ih
    refine ⟨t :: ts, by rw [e, e2]; rfl, by simp [l2], fun y hy => ?_⟩
    rcases List.mem_cons.mp hy with e | hy
    · rw [e]; exact ht
    · exact h2 y hy
theorem sp_right {p : Nat} {M : Mem} (h : Pool p M) : Wp (m__law_right [.loc p] M) fun d M' => d = .bl true ∧ Kp (At p) M M' := by
  have hp := h.lt
  refine wp_fn rfl [some (.loc p), none, none, none] rfl ?_
  unfold b__law_right
  array_get_dec
  refine wq_lcJ (fun _ y => ∃ t, y = tabD t ∧ MidT t) p ?_
  array_get_dec
  refine k_lcJ (n := 3) (by decide) h ?_ ?_
  · intro j hj M2 k2 l2 p2
    array_get_dec
    refine (sp_table p2).go ?_
    rintro d M3 ⟨e3, p3, k3⟩
    exact ⟨e3, k3, p3⟩
  · intro ys m M2 e2 l2 ha k2 p2 g2
    obtain ⟨ts, rfl, d1, d2⟩ := tabs_of ha
    replace d1 : ts.length = 3 := by rw [d1, intsR_len]
    array_get_dec
    refine (sp_draw p2 (by decide) (by decide)).go ?_
    rintro _ M3 ⟨⟨b, rfl, hb⟩, P3, k3⟩
    array_get_dec
    rw [show (1 : Int) + (b : Nat) = ((1 + b : Nat) : Int) by omega]
    refine (sp_policyL (l := 4) P3 (by omega) (by omega) (by omega) (by omega)).go ?_
    rintro _ M4 ⟨⟨t, rfl, ok, tl, tr⟩, P4, k4⟩
    have nm : m ≠ p := by omega
    have g4 := k4.at (k3.at g2 nm) nm
    array_get_dec
    rename_i n5 M5 e5 g5 k5 l5
    refine wq_addL (k5.at g4 id) g5 (by simp only [List.length_map, List.length_singleton]; omega) ?_
    array_get_dec
    rename_i n6 M6 e6 g6 k6 l6
    have g6' : M6[n6]? = some (.lst ((ts ++ [t]).map tabD)) := by rw [g6, List.map_append]; rfl
    refine wq_map (fun _ => .bl true) ?_
    array_get_dec
    refine k_mapL g6' (size_le (by simp only [List.length_map, List.length_append, List.length_singleton]; omega)) ?_ ?_
    · intro x hx M7 k7
      obtain ⟨t', ht', rfl⟩ := List.mem_map.mp hx
      have mt : MidT t' := by
        rcases List.mem_append.mp ht' with q | q
        · exact d2 t' q
        · rw [List.mem_singleton.mp q]; exact mid_pol ok (.inr (by omega))
      array_get_dec
      refine (sp_asked mt).go ?_
      rintro _ M8 ⟨rfl, k8⟩
      exact ⟨rfl, k8⟩
    · intro n7 M7 e7 l7 k7 g7
      array_get_dec
      refine wp_all g7 (bls_all fun x hx => by obtain ⟨_, _, rfl⟩ := List.mem_map.mp hx; rfl) ?_
      array_get_dec
      refine ⟨by simp, ((((k2.tr k3).tr k4).trN k5).trN k6).trN k7⟩
end L60

/-! text Fl6_60 -/
namespace L60
open PySem L2 PySem.Spec PyProof.Rows Zl
/-! ## tables by hand: what is found for them is checked -/
def memN (x : Nd) : List Nd → Bool
  | [] => false
  | y :: ys => (Nat.beq x.1 y.1 && decide (x.2 = y.2)) || memN x ys
theorem memN_iff {x : Nd} : ∀ {ys : List Nd}, memN x ys = true → x ∈ ys
  | y :: ys, h => by
    unfold memN at h
    rw [Bool.or_eq_true, Bool.and_eq_true, decide_eq_true_iff] at h
    rcases h with ⟨h1, h2⟩ | h
    · rw [show x = y from Prod.ext (Nat.eq_of_beq_eq_true h1) h2]
      exact List.mem_cons_self ..
    · exact List.mem_cons_of_mem _ (memN_iff h)
def clB (t : Tb) (U : List Nd) : Bool := memN (beg t) U && U.all fun s => (anyM t s).all fun e => memN e.2 U
theorem cl_all {t : Tb} {U : List Nd} (h : clB t U = true) {n : Nd} (r : RcS t n) : n ∈ U := by
  unfold clB at h
  simp only [Bool.and_eq_true, List.all_eq_true] at h
  induction r with
  | first => exact memN_iff h.1
  | go _ he ih => exact memN_iff (h.2 _ ih _ he)
def addA (es : List Nd) (p : List Nd × List Nd) : List Nd × List Nd := es.foldl (fun p x => bif memN x p.2 then p else (p.1 ++ [x], p.2 ++ [x])) p
def bfsS (t : Tb) : Nat → List Nd → List Nd → List Nd
  | 0, _, seen => seen
  | _ + 1, [], seen => seen
  | f + 1, n :: q, seen => bfsS t f (addA ((anyM t n).map (·.2)) (q, seen)).1 (addA ((anyM t n).map (·.2)) (q, seen)).2
def stgsT (t : Tb) : List Nd := bfsS t 2000 [beg t] [beg t]
def goM (mv : Nd → List (Nat × Nd)) : Nd → List Nat → Option Nd
  | n, [] => some n
  | n, m :: ms => match (mv n).find? fun e => Nat.beq e.1 m with
    | some e => goM mv e.2 ms
    | none => none
theorem go_rch {t : Tb} : ∀ {ms : List Nat} {n x : Nd}, RcS t n → goM (anyM t) n ms = some x → RcS t x
  | [], n, x, r, h => by cases h; exact r
  | m :: ms, n, x, r, h => by
    unfold goM at h
    split at h
    · rename_i e he
      exact go_rch (.go r (List.mem_of_find?_eq_some he)) h
    · cases h
theorem go_pth {t : Tb} : ∀ {ms : List Nat} {n : Nd}, (goM (edO t) n ms).isSome = true → Pth (edO t) ms.length n
  | [], _, _ => trivial
  | m :: ms, n, h => by
    unfold goM at h
    split at h
    · rename_i e he
      exact ⟨e, List.mem_of_find?_eq_some he, go_pth h⟩
    · cases h
def phB (t : Tb) (φ : Nd → Nat) : Bool := (allN t).all fun n => (edO t n).all fun e => Nat.blt (φ e.2) (φ n)
theorem ph_bound {t : Tb} (ht : OkT t) {φ : Nd → Nat} (h : phB t φ = true) : ∀ (k : Nat) (n : Nd), okN t n → Pth (edO t) k n → k ≤ φ n
  | 0, _, _, _ => Nat.zero_le _
  | k + 1, n, hn, ⟨e, he, p⟩ => by
    unfold phB at h
    have a := List.all_eq_true.mp (List.all_eq_true.mp h n (allN_mem hn)) e he
    have b := ph_bound ht (by unfold phB; exact h) k e.2 (ed_ok ht hn he) p
    have c : φ e.2 < φ n := Nat.le_of_ble_eq_true a
    omega
def someB (t : Tb) (φ : Nd → Nat) (ahead moves : List Nat) : Bool := clB t (stgsT t) && phB t φ && (stgsT t).all (fun s => !hasO s || Nat.ble (φ (oldm s)) moves.length) && match goM (anyM t) (beg t) ahead with
  | some s => hasO s && (goM (edO t) (oldm s) moves).isSome
  | none => false
theorem fg_some {t : Tb} (ht : OkT t) {φ : Nd → Nat} {ahead moves : List Nat} (h : someB t φ ahead moves = true) : FgS (edO t) (StP t) (some (moves.length + 1)) := by
  unfold someB at h
  simp only [Bool.and_eq_true] at h
  obtain ⟨⟨⟨h1, h2⟩, h3⟩, h4⟩ := h
  split at h4
  · rename_i s hs
    rw [Bool.and_eq_true] at h4
    refine ⟨moves.length, rfl, ⟨oldm s, ⟨s, go_rch .first hs, h4.1, rfl⟩, go_pth h4.2⟩, fun z ⟨s', r, o, e⟩ p => ?_⟩
    subst e
    have a := List.all_eq_true.mp h3 s' (cl_all h1 r)
    rw [o, Bool.not_true, Bool.false_or] at a
    have b := ph_bound ht h2 _ _ (old_ok (rcs_ok ht r)) p
    have c := Nat.le_of_ble_eq_true a
    omega
  · cases h4
def pthB (t : Tb) : Nat → Nd → Bool
  | 0, _ => true
  | k + 1, n => (edO t n).any fun e => pthB t k e.2
theorem pthB_iff {t : Tb} : ∀ {k : Nat} {n : Nd}, pthB t k n = true ↔ Pth (edO t) k n
  | 0, _ => ⟨fun _ => trivial, fun _ => rfl⟩
  | k + 1, n => by
    unfold pthB
    rw [List.any_eq_true]
    exact ⟨fun ⟨e, he, p⟩ => ⟨e, he, pthB_iff.mp p⟩, fun ⟨e, he, p⟩ => ⟨e, he, pthB_iff.mpr p⟩⟩
def smallB (t : Tb) (ahead : List Nat) (k : Nat) : Bool := clB t (stgsT t) && (stgsT t).all (fun s => !hasO s || !pthB t (k + 1) (oldm s)) && match goM (anyM t) (beg t) ahead with
  | some s => hasO s && pthB t k (oldm s)
  | none => false
theorem fg_smallB {t : Tb} {ahead : List Nat} {k : Nat} (h : smallB t ahead k = true) : FgS (edO t) (StP t) (some (k + 1)) := by
  unfold smallB at h
  simp only [Bool.and_eq_true] at h
  obtain ⟨⟨h1, h3⟩, h4⟩ := h
  split at h4
  · rename_i s hs
    rw [Bool.and_eq_true] at h4
    refine ⟨k, rfl, ⟨oldm s, ⟨s, go_rch .first hs, h4.1, rfl⟩, pthB_iff.mp h4.2⟩, fun z ⟨s', r, o, e⟩ p => ?_⟩
    subst e
    have a := List.all_eq_true.mp h3 s' (cl_all h1 r)
    rw [o, Bool.not_true, Bool.false_or, pthB_iff.mpr p] at a
    cases a
  · cases h4
def endB (t : Tb) (u : Nd → Bool) (ahead : List Nat) : Bool := ((allN t).all fun n => !u n || (edO t n).any fun e => u e.2) && match goM (anyM t) (beg t) ahead with
  | some s => hasO s && u (oldm s)
  | none => false
theorem fg_end {t : Tb} (ht : OkT t) {u : Nd → Bool} {ahead : List Nat} (h : endB t u ahead = true) : FgS (edO t) (StP t) none := by
  unfold endB at h
  rw [Bool.and_eq_true] at h
  obtain ⟨h1, h4⟩ := h
  split at h4
  · rename_i s hs
    rw [Bool.and_eq_true] at h4
    have r := go_rch .first hs
    refine fun k => ⟨oldm s, ⟨s, r, h4.1, rfl⟩, Zl.endless (U := fun n => okN t n ∧ u n = true) (fun n ⟨a, b⟩ => ?_) k _ ⟨old_ok (rcs_ok ht r), h4.2⟩⟩
    have q := List.all_eq_true.mp h1 n (allN_mem a)
    rw [b, Bool.not_true, Bool.false_or, List.any_eq_true] at q
    obtain ⟨e, he, q⟩ := q
    exact ⟨e, he, ed_ok ht a he, q⟩
  · cases h4
def okTC (t : Tb) : Bool := decide (1 ≤ t.l) && decide (t.l ≤ 4) && decide (1 ≤ t.rows.length) && decide (t.rows.length ≤ 64) && t.rows.all fun r => decide (r.v < t.l) && decide (r.s < t.rows.length) && decide (r.hits.length = t.l) && r.hits.all fun h => decide (h < t.rows.length)
theorem okTC_of {t : Tb} (h : okTC t = true) : OkT t := by
  unfold okTC at h
  simp only [Bool.and_eq_true, decide_eq_true_eq, List.all_eq_true] at h
  obtain ⟨⟨⟨⟨h1, h2⟩, h3⟩, h4⟩, h5⟩ := h
  exact ⟨h1, h2, h3, h4, fun r hr => ⟨(h5 r hr).1.1.1, (h5 r hr).1.1.2, (h5 r hr).1.2, (h5 r hr).2⟩⟩
/-! the tables -/
def blkT (m : Nat) : Tb := ⟨4, (List.range (4 * m)).map fun a => ⟨a / m, (a + 1) % (4 * m), List.replicate 4 a⟩⟩
def selT : Tb := ⟨2, (List.range 64).map fun a => ⟨if a = 63 then 1 else 0, (a + 1) % 64, [a, a]⟩⟩
def lasT : Tb := ⟨4, (List.range 64).map fun a => ⟨[3, 0, 1, 2].getD (a / 16) 0, if a < 63 then a + 1 else 16, List.replicate 4 a⟩⟩
def isT : Option (Option Bool) → Bool
  | some (some true) => true
  | _ => false
def cntO : List (Option Bool) → Nat
  | [] => 0
  | some true :: ms => cntO ms + 1
  | _ :: ms => cntO ms
def dBl (m b o : Nat) (ms : List (Option Bool)) (j : Nat) : Nat := bif isT ms[j]? then (bif Nat.beq j b then 0 else (j + 4 - b) % 4 * m - o) else 0
def phBl (m : Nat) (n : Nd) : Nat := bif Nat.beq (cntO n.2) 0 then 0 else (Nat.max (Nat.max (dBl m (n.1 / m) (n.1 % m) n.2 0) (dBl m (n.1 / m) (n.1 % m) n.2 1)) (Nat.max (dBl m (n.1 / m) (n.1 % m) n.2 2) (dBl m (n.1 / m) (n.1 % m) n.2 3))) + cntO n.2 - 1
def phSe (n : Nd) : Nat := bif Nat.beq (cntO n.2) 0 then 0 else Nat.max (bif isT n.2[0]? then (bif Nat.beq n.1 63 then 1 else 0) else 0) (bif isT n.2[1]? then 63 - n.1 else 0) + cntO n.2 - 1
theorem blk_ok {m : Nat} (h : m = 1 ∨ m = 2 ∨ m = 5 ∨ m = 16) : OkT (blkT m) := by
  rcases h with rfl | rfl | rfl | rfl <;> exact okTC_of (by decide +kernel)
theorem sel_ok : OkT selT := okTC_of (by decide +kernel)
theorem las_ok : OkT lasT := okTC_of (by decide +kernel)
def wayB (m : Nat) : List Nat := [0, 1, 2] ++ List.replicate (3 * m) 4
theorem blk1 : FgS (edO (blkT 1)) (StP (blkT 1)) (some 7) := fg_some (blk_ok (.inl rfl)) (φ := phBl 1) (ahead := List.replicate 4 4) (moves := wayB 1) (by decide +kernel)
theorem blk2 : FgS (edO (blkT 2)) (StP (blkT 2)) (some 10) := fg_some (blk_ok (.inr (.inl rfl))) (φ := phBl 2) (ahead := List.replicate 8 4) (moves := wayB 2) (by decide +kernel)
theorem blk5 : FgS (edO (blkT 5)) (StP (blkT 5)) (some 19) := fg_some (blk_ok (.inr (.inr (.inl rfl)))) (φ := phBl 5) (ahead := List.replicate 20 4) (moves := wayB 5) (by decide +kernel)
theorem sel_fg : FgS (edO selT) (StP selT) (some 65) := by
  have h := fg_some sel_ok (φ := phSe) (ahead := List.replicate 64 2) (moves := [0] ++ List.replicate 63 2) (by decide +kernel)
  rwa [show ([0] ++ List.replicate 63 2 : List Nat).length + 1 = 65 from by decide] at h
theorem las_fg : FgS (edO lasT) (StP lasT) none := fg_end las_ok (u := fun n => Nat.ble 16 n.1 && Nat.blt n.1 64 && isT n.2[3]?) (ahead := List.replicate 17 4) (by decide +kernel)
theorem blk16 : FgS (edO (blkT 16)) (StP (blkT 16)) (some 52) := by
  have h := fg_some (blk_ok (.inr (.inr (.inr rfl)))) (φ := phBl 16) (ahead := List.replicate 64 4) (moves := wayB 16) (by decide +kernel)
  rwa [show (wayB 16).length + 1 = 52 from by decide] at h
theorem rec_fg {l : Nat} (h1 : 1 ≤ l) (h4 : l ≤ 4) : FgS (edO (recT l)) (StP (recT l)) (some l) := by
  have : l = 1 ∨ l = 2 ∨ l = 3 ∨ l = 4 := by omega
  rcases this with rfl | rfl | rfl | rfl
  · exact fg_smallB (ahead := List.replicate 1 1) (k := 0) (by decide +kernel)
  · exact fg_smallB (ahead := List.replicate 2 2) (k := 1) (by decide +kernel)
  · exact fg_smallB (ahead := List.replicate 3 3) (k := 2) (by decide +kernel)
  · exact fg_smallB (ahead := List.replicate 4 4) (k := 3) (by decide +kernel)
theorem queue_fg {l : Nat} (h1 : 1 ≤ l) (h4 : l ≤ 4) : FgS (edO (queueT l)) (StP (queueT l)) (some (2 * l - 1)) := by
  have : l = 1 ∨ l = 2 ∨ l = 3 ∨ l = 4 := by omega
  rcases this with rfl | rfl | rfl | rfl
  · exact fg_smallB (ahead := List.replicate 1 1) (k := 0) (by decide +kernel)
  · exact fg_smallB (ahead := List.replicate 2 2) (k := 2) (by decide +kernel)
  · exact fg_smallB (ahead := List.replicate 3 3) (k := 4) (by decide +kernel)
  · exact fg_smallB (ahead := List.replicate 4 4) (k := 6) (by decide +kernel)
def du1 : Tb := ⟨3, [⟨2, 0, [0, 0, 0]⟩]⟩
def du2 : Tb := ⟨2, [⟨0, 1, [0, 0]⟩, ⟨1, 1, [1, 1]⟩]⟩
def du3 : Tb := ⟨2, [⟨0, 1, [0, 0]⟩, ⟨1, 2, [1, 1]⟩, ⟨1, 2, [3, 2]⟩, ⟨0, 3, [3, 2]⟩]⟩
def du4 : Tb := ⟨2, [⟨0, 1, [1, 0]⟩, ⟨1, 0, [1, 0]⟩]⟩
def du5 : Tb := ⟨2, [⟨1, 1, [0, 0]⟩, ⟨0, 0, [1, 1]⟩]⟩
theorem du_ok {t : Tb} (h : t = du1 ∨ t = du2 ∨ t = du3 ∨ t = du4 ∨ t = du5) : OkT t := by
  rcases h with rfl | rfl | rfl | rfl | rfl <;> exact okTC_of (by decide +kernel)
theorem fg1 : FgS (edO du1) (StP du1) (some 1) := fg_smallB (ahead := [3]) (k := 0) (by decide +kernel)
theorem fg2 : FgS (edO du2) (StP du2) none := fg_end (du_ok (.inr (.inl rfl))) (u := fun n => Nat.beq n.1 1 && isT n.2[0]?) (ahead := [2]) (by decide +kernel)
theorem fg3 : FgS (edO du3) (StP du3) none := fg_end (du_ok (.inr (.inr (.inl rfl)))) (u := fun n => Nat.beq n.1 2 && isT n.2[0]?) (ahead := [2, 2]) (by decide +kernel)
theorem fg4 : FgS (edO du4) (StP du4) (some 2) := fg_smallB (ahead := [2, 2]) (k := 1) (by decide +kernel)
theorem fg5 : FgS (edO du5) (StP du5) (some 3) := fg_smallB (ahead := [2, 2]) (k := 2) (by decide +kernel)
end L60

/-! text Fl7_60 -/
namespace L60
open PySem L2 PySem.Spec PyProof.Rows Zl
theorem sp_blocks {m : Nat} {M : Mem} (hm : 1 ≤ m) (hm4 : m ≤ 16) : Wp (m__law_blocks [.int (m : Nat)] M) fun d M' => d = tabD (blkT m) ∧ Kp NoW M M' := by
  refine wp_fn rfl [some (.int (m : Nat)), none, none] rfl ?_
  unfold b__law_blocks
  array_get_dec
  refine wq_map (fun x => match x with | .int i => rowD ⟨i.toNat / m, (i.toNat + 1) % (4 * m), List.replicate 4 i.toNat⟩ | _ => .non) ?_
  array_get_dec
  rw [show (4 : Int) * (m : Nat) = ((4 * m : Nat) : Int) by omega]
  array_get_dec
  refine k_mapR (size_le (by omega)) ?_ ?_
  · intro a ha M1 k1
    array_get_dec
    refine wp_mulT (k := 4) (by show 1 * _ ≤ _; decide) (by decide) ?_
    array_get_dec
    refine ⟨?_, .refl⟩
    simp only [Int.toNat_natCast, rep_tup, rowD]
    rw [show ((a : Nat) : Int) / (m : Nat) = ((a / m : Nat) : Int) by simp, show (((a : Nat) : Int) + 1) % (4 * ((m : Nat) : Int)) = (((a + 1) % (4 * m) : Nat) : Int) by simp]
  · intro n1 M1 e1 l1 k1 g1
    array_get_dec
    refine ⟨?_, k1⟩
    simp only [tabD, blkT, intsR, List.map_map]
    congr 3
theorem sp_seldom {M : Mem} : Wp (m__law_seldom [] M) fun d M' => d = tabD selT ∧ Kp NoW M M' := by
  refine wp_fn rfl [none] rfl ?_
  unfold b__law_seldom
  array_get_dec
  refine wq_map (fun x => match x with | .int i => rowD ⟨if i.toNat = 63 then 1 else 0, (i.toNat + 1) % 64, [i.toNat, i.toNat]⟩ | _ => .non) ?_
  array_get_dec
  refine k_mapR (m := 64) (size_le (by decide)) ?_ ?_
  · intro a ha M1 k1
    array_get_dec
    refine ⟨?_, .refl⟩
    simp only [Int.toNat_natCast, rowD]
    rw [show (((a : Nat) : Int) + 1) % 64 = (((a + 1) % 64 : Nat) : Int) by omega]
    by_cases h : a = 63
    · subst h; rfl
    · rw [if_neg h, if_neg (by simp; omega)]; rfl
  · intro n1 M1 e1 l1 k1 g1
    array_get_dec
    refine ⟨?_, k1⟩
    simp only [tabD, selT, intsR, List.map_map]
    congr 3
theorem sp_lasting {M : Mem} : Wp (m__law_lasting [] M) fun d M' => d = tabD lasT ∧ Kp NoW M M' := by
  refine wp_fn rfl [none, none] rfl ?_
  unfold b__law_lasting
  array_get_dec
  refine wq_map (fun x => match x with | .int i => rowD ⟨[3, 0, 1, 2].getD (i.toNat / 16) 0, if i.toNat < 63 then i.toNat + 1 else 16, List.replicate 4 i.toNat⟩ | _ => .non) ?_
  array_get_dec
  refine k_mapR (m := 64) (size_le (by decide)) ?_ ?_
  · intro a ha M1 k1
    array_get_dec
    have ha4 : a / 16 < 4 := by omega
    refine wp_ixT (x := .int (([3, 0, 1, 2] : List Nat).getD (a / 16) 0 : Nat)) ?_ ?_
    · rw [show ((a : Nat) : Int) / 16 = ((a / 16 : Nat) : Int) by omega]
      have : a / 16 = 0 ∨ a / 16 = 1 ∨ a / 16 = 2 ∨ a / 16 = 3 := by omega
      rcases this with e | e | e | e <;> rw [e] <;> rfl
    array_get_dec
    by_cases h : a < 63
    · refine ki_of (c := true) (decide_eq_true (by omega)) ?_
      array_get_dec
      refine wp_mulT (k := 4) (by show 1 * _ ≤ _; decide) (by decide) ?_
      array_get_dec
      refine ⟨?_, .refl⟩
      simp only [Int.toNat_natCast, rep_tup, rowD, if_pos h]
      rfl
    · refine ki_of (c := false) (decide_eq_false (by omega)) ?_
      array_get_dec
      refine wp_mulT (k := 4) (by show 1 * _ ≤ _; decide) (by decide) ?_
      array_get_dec
      refine ⟨?_, .refl⟩
      simp only [Int.toNat_natCast, rep_tup, rowD, if_neg h]
      rfl
  · intro n1 M1 e1 l1 k1 g1
    array_get_dec
    refine ⟨?_, k1⟩
    simp only [tabD, lasT, intsR, List.map_map]
    congr 3
theorem rd_os {M : Mem} {k : Nat} : ∀ os : List (Option Nat), rdL (rd M k) (os.map optD) = some (os.map oP)
  | [] => rfl
  | o :: os => rdL_cons (rd_o o) (rd_os os)
theorem wq_eqOs {b : Bool} {n m : Nat} {os : List (Option Nat)} {M : Mem} {q : QE} (hn : M[n]? = some (.lst (os.map optD))) (hm : M[m]? = some (.lst (os.map optD))) (h : ∀ o ∈ os, ∀ v, o = some v → v ≤ 3000) (c : q (.bl (!b)) M) : Wp (eqD b (.loc n) (.loc m) M) q := by
  have hs := sm_list (smA_all (k := 0) (n := 1) (ps := os.map oP) fun p hp => by obtain ⟨x, hx, rfl⟩ := List.mem_map.mp hp; exact sm_o (h x hx))
  refine wq_eqS (rd_loc (n := 29) hn (rd_os os)) (rd_loc (n := 29) hm (rd_os os)) hs hs (by decide) (by decide) ?_
  rw [SeqAt.eqv_refl _ (SeqAt.canLay_of_shaped (hs.shaped (by decide)))]
  cases b <;> exact c
/-! pairs of what is due and a table -/
def duD (p : Option Nat × Tb) : Dv := .tup [optD p.1, tabD p.2]
def duS : List (Option Nat × Tb) := [(some 1, du1), (none, du2), (none, du3), (some 2, du4), (some 3, du5)]
theorem wq_pairs {fe : FE} {M : Mem} {m : Nat} {q : QE} {x0 x2 x3 x4 x5 x6 : Option Dv} {ps : List (Option Nat × Tb)} (h0 : M[m]? = some (.lst (ps.map duD))) (hl : ps.length ≤ 100)
    (he : ∀ p ∈ ps, ∀ M', Kp NoW M M' → Wp (fe [x0, some (.loc m), x2, x3, some (optD p.1), some (tabD p.2), x6] M') fun y M3 => y = optD p.1 ∧ Kp NoW M' M3)
    (hq : ∀ n M', n = M.length → M.length < M'.length → Kp NoW M M' → M'[n]? = some (.lst ((ps.map (·.1)).map optD)) → q (.loc n) M') : Wp (fComp (fSrc (fV 1)) [4, 5] (gOr (gT 2 (gsCons (gN 4) (gsCons (gN 5) gsNil))) (gL 2 (gsCons (gN 4) (gsCons (gN 5) gsNil)))) fYes fe [x0, some (.loc m), x2, x3, x4, x5, x6] M) q := by
  refine wq_lcG (fun _ => true) (fun i => match ps[i]? with | some p => optD p.1 | none => .non) ?_
  array_get_dec
  refine ⟨by show (ps.map duD).length ≤ _; rw [List.length_map]; omega, ?_, ?_, ?_⟩
  · intro i M6 q6 hi
    have hi' : i < ps.length := by have : i < (ps.map duD).length := hi; simpa using this
    have eO : ps[i]? = some ps[i] := List.getElem?_eq_getElem hi'
    refine ⟨duD ps[i], by show stpL m i M6 = _; rw [stpL_at (q6.at h0 id), List.getElem?_map, eO]; rfl, ?_⟩
    unfold duD
    array_get_dec
    refine wp_ev (a := true) (M' := M6) rfl ⟨rfl, .refl, fun _ => ?_⟩
    refine (he _ (List.getElem_mem hi') M6 q6).go ?_
    rintro _ M7 ⟨rfl, k7⟩
    rw [eO]
    exact ⟨rfl, k7⟩
  · intro M6 q6
    show stpL m (ps.map duD).length M6 = _
    rw [stpL_at (q6.at h0 id), List.getElem?_eq_none (Nat.le_refl _)]
  intro nx M6 e6 l6 q6 g6
  refine hq nx M6 e6 l6 q6 ?_
  rw [g6]
  congr 2
  show ((List.range (ps.map duD).length).filter fun _ => true).map _ = _
  rw [List.filter_eq_self.mpr fun _ _ => rfl, List.length_map]
  refine List.ext_getElem? fun i => ?_
  rw [List.map_map, List.getElem?_map, List.getElem?_map]
  by_cases hi : i < ps.length
  · rw [List.getElem?_range hi, List.getElem?_eq_getElem hi]
    show some (match ps[i]? with | some s => _ | none => _) = _
    rw [List.getElem?_eq_getElem hi]; rfl
  · rw [List.getElem?_eq_none (by simp; omega), List.getElem?_eq_none (by omega)]; rfl
theorem du_all : ∀ p ∈ duS, OkT p.2 ∧ FgS (edO p.2) (StP p.2) p.1 := by
  intro p hp
  simp only [duS, List.mem_cons, List.not_mem_nil, or_false] at hp
  rcases hp with rfl | rfl | rfl | rfl | rfl
  · exact ⟨du_ok (.inl rfl), fg1⟩
  · exact ⟨du_ok (.inr (.inl rfl)), fg2⟩
  · exact ⟨du_ok (.inr (.inr (.inl rfl))), fg3⟩
  · exact ⟨du_ok (.inr (.inr (.inr (.inl rfl)))), fg4⟩
  · exact ⟨du_ok (.inr (.inr (.inr (.inr rfl)))), fg5⟩
def exB : Dv → Dv
  | .int 1 => .int 7
  | .int 2 => .int 10
  | .int 5 => .int 19
  | _ => .int 52
def exQ : Dv → Dv
  | .int i => .int (2 * i.toNat - 1 : Nat)
  | x => x
theorem math : ∀ ns : List Int, ns.length ≤ 63 → ∃ M', m_law [.rol (ns.map .int)] [] = some (.bl true, M') := by
  intro ns hns
  have h : Wp (m_law [.rol (ns.map .int)] []) fun d _ => d = .bl true := by
    refine wp_fn rfl [some (.rol (ns.map .int)), none, none, none, none, none, none] rfl ?_
    unfold b_law
    array_get_dec
    refine wq_map exB ?_
    array_get_dec
    rename_i n0 M0 e0 g0 k0 l0
    refine k_mapL g0 (size_le (by simp)) ?_ ?_
    · intro x hx M1 k1
      obtain ⟨m, v, rfl, h1, h3, ok, fg, ev⟩ : ∃ m v : Nat, x = .int (m : Nat) ∧ 1 ≤ m ∧ m ≤ 16 ∧ OkT (blkT m) ∧ FgS (edO (blkT m)) (StP (blkT m)) (some v) ∧ exB x = Dv.int (v : Nat) := by
        simp only [List.mem_cons, List.not_mem_nil, or_false] at hx
        rcases hx with rfl | rfl | rfl | rfl
        · exact ⟨1, 7, rfl, by omega, by omega, blk_ok (.inl rfl), blk1, rfl⟩
        · exact ⟨2, 10, rfl, by omega, by omega, blk_ok (.inr (.inl rfl)), blk2, rfl⟩
        · exact ⟨5, 19, rfl, by omega, by omega, blk_ok (.inr (.inr (.inl rfl))), blk5, rfl⟩
        · exact ⟨16, 52, rfl, by omega, by omega, blk_ok (.inr (.inr (.inr rfl))), blk16, rfl⟩
      rw [ev]
      array_get_dec
      refine (sp_blocks h1 h3).go ?_
      rintro _ M2 ⟨rfl, k2⟩
      array_get_dec
      refine (sp_forgets ok).go ?_
      rintro _ M3 ⟨o, rfl, f, k3⟩
      cases fg_uniq f fg
      exact ⟨rfl, k2.trN k3⟩
    intro n1 M1 e1 l1 k1 g1
    array_get_dec
    rename_i n2 M2 e2 g2 k2 l2
    refine wq_eqOs (os := [some 7, some 10, some 19, some 52]) (k2.at g1 id) g2 (fun o ho v e => ?_) ?_
    · subst e
      simp only [List.mem_cons, List.not_mem_nil, or_false, Option.some.injEq] at ho
      omega
    array_get_dec
    refine ki_of (c := false) rfl ?_
    array_get_dec
    refine sp_lasting.go ?_
    rintro _ M3 ⟨rfl, k3⟩
    array_get_dec
    refine (sp_forgets las_ok).go ?_
    rintro _ M4 ⟨o, rfl, f, k4⟩
    cases fg_uniq f las_fg
    array_get_dec
    refine wp_ev (a := .bl false) (M' := M4) rfl ?_
    array_get_dec
    refine sp_seldom.go ?_
    rintro _ M5 ⟨rfl, k5⟩
    array_get_dec
    refine (sp_forgets sel_ok).go ?_
    rintro _ M6 ⟨o, rfl, f, k6⟩
    cases fg_uniq f sel_fg
    array_get_dec
    refine wp_ev (a := .bl false) (M' := M6) rfl ?_
    array_get_dec
    refine wq_map (fun x => x) ?_
    array_get_dec
    rename_i n7 M7 e7 g7 k7 l7
    refine k_mapL g7 (size_le (by simp)) ?_ ?_
    · intro x hx MA kA
      obtain ⟨l, rfl, h1, h4⟩ : ∃ l : Nat, x = .int (l : Nat) ∧ 1 ≤ l ∧ l ≤ 4 := by
        simp only [List.mem_cons, List.not_mem_nil, or_false] at hx
        rcases hx with rfl | rfl | rfl | rfl
        · exact ⟨1, rfl, by omega, by omega⟩
        · exact ⟨2, rfl, by omega, by omega⟩
        · exact ⟨3, rfl, by omega, by omega⟩
        · exact ⟨4, rfl, by omega, by omega⟩
      array_get_dec
      refine (sp_recent h1 h4).go ?_
      rintro _ MB ⟨rfl, kB⟩
      array_get_dec
      refine (sp_forgets (rec_ok h1 h4)).go ?_
      rintro _ MC ⟨o, rfl, f, kC⟩
      cases fg_uniq f (rec_fg h1 h4)
      exact ⟨rfl, kB.trN kC⟩
    intro n8 M8 e8 l8 k8 g8
    array_get_dec
    rename_i n9 M9 e9 g9 k9 l9
    refine wq_eqOs (os := [some 1, some 2, some 3, some 4]) (k9.at g8 id) g9 (fun o ho v e => ?_) ?_
    · subst e
      simp only [List.mem_cons, List.not_mem_nil, or_false, Option.some.injEq] at ho
      omega
    array_get_dec
    refine ki_of (c := false) rfl ?_
    array_get_dec
    refine wq_map exQ ?_
    array_get_dec
    rename_i na Na ea ga ka la
    refine k_mapL ga (size_le (by simp)) ?_ ?_
    · intro x hx MA kA
      obtain ⟨l, rfl, h1, h4⟩ : ∃ l : Nat, x = .int (l : Nat) ∧ 1 ≤ l ∧ l ≤ 4 := by
        simp only [List.mem_cons, List.not_mem_nil, or_false] at hx
        rcases hx with rfl | rfl | rfl | rfl
        · exact ⟨1, rfl, by omega, by omega⟩
        · exact ⟨2, rfl, by omega, by omega⟩
        · exact ⟨3, rfl, by omega, by omega⟩
        · exact ⟨4, rfl, by omega, by omega⟩
      array_get_dec
      refine (sp_queue h1 h4).go ?_
      rintro _ MB ⟨rfl, kB⟩
      array_get_dec
      refine (sp_forgets (queue_ok h1 h4)).go ?_
      rintro _ MC ⟨o, rfl, f, kC⟩
      cases fg_uniq f (queue_fg h1 h4)
      exact ⟨rfl, kB.trN kC⟩
    intro nb Nb eb lb kb gb
    array_get_dec
    rename_i nc Nc ec gc kc lc
    refine wq_eqOs (os := [some 1, some 3, some 5, some 7]) (kc.at gb id) gc (fun o ho v e => ?_) ?_
    · subst e
      simp only [List.mem_cons, List.not_mem_nil, or_false, Option.some.injEq] at ho
      omega
    array_get_dec
    refine ki_of (c := false) rfl ?_
    array_get_dec
    rename_i nd Nd_ ed gd kd ld
    refine wq_append gd (size_lt (by simp)) ?_
    array_get_dec
    rename_i ng Ng eg gg kg lg
    have gg' : Ng[ng]? = some (.lst (duS.map duD)) := gg
    refine wq_pairs gg' (by simp [duS]) ?_ ?_
    · intro p hp MA kA
      obtain ⟨ok, fg⟩ := du_all p hp
      array_get_dec
      refine (sp_forgets ok).go ?_
      rintro _ MB ⟨o, rfl, f, kB⟩
      cases fg_uniq f fg
      exact ⟨rfl, kB⟩
    intro nh Nh eh lh kh gh
    array_get_dec
    refine wq_pairs (kh.at gg' id) (by simp [duS]) ?_ ?_
    · intro p hp MA kA
      array_get_dec
      exact ⟨rfl, .refl⟩
    intro ni Ni ei li ki gi
    array_get_dec
    refine wq_eqOs (ki.at gh id) gi (fun o ho v e => ?_) ?_
    · subst e
      simp only [duS, List.map_cons, List.map_nil, List.mem_cons, List.not_mem_nil, or_false, Option.some.injEq, reduceCtorEq, false_or] at ho
      omega
    array_get_dec
    refine ki_of (c := false) rfl ?_
    array_get_dec
    have hlen : ((ns.map Dv.int).length : Nat) = ns.length := by simp
    refine wq_map (fun _ => .bl true) ?_
    array_get_dec
    refine wp_ev (a := .int (min ns.length 6 : Nat)) (M' := Ni) ?_ ?_
    · unfold minD
      simp only [hlen]
      congr 3
      split <;> omega
    array_get_dec
    refine wp_ev (a := .int (max 2 (min ns.length 6) : Nat)) (M' := Ni) ?_ ?_
    · unfold maxD
      simp only
      congr 3
      split <;> omega
    array_get_dec
    refine k_mapR (size_le (by omega)) ?_ ?_
    · intro j hj MA kA
      array_get_dec
      refine (sp_cell (k := j) (by omega)).go ?_
      rintro _ MB ⟨⟨x, rfl⟩, kB⟩
      array_get_dec
      refine sp_pool.go ?_
      rintro _ MC ⟨p, rfl, ep, hp, kC⟩
      array_get_dec
      refine (sp_right hp).go ?_
      rintro _ MD ⟨rfl, kD⟩
      exact ⟨rfl, by array_mem_dec⟩
    · intro nj Nj ej lj kj gj
      array_get_dec
      refine wp_all gj (bls_all (by simp)) ?_
      array_get_dec
      simp
  obtain ⟨d, M, e, rfl⟩ := h
  exact ⟨M, e⟩
end L60

open PySem PySem.W PyProof.Rows in
set_option maxRecDepth 100000 in
set_option maxHeartbeats 0 in
theorem PySem.Challenge.cw_missbounds_k60_forgetting_holds : PySem.Challenge.rw_missbounds_k60_forgetting.Holds := by
  w_on; o_law; k_head; (case hw => w_witness2)
  k_fill
  refine Zl.walk_end (l := PySem.Challenge.rw_missbounds_k60_forgetting) (k := 9) (x := "_law_script") (F := L60.m_law) rfl rfl ⟨rfl, by decide, by decide⟩ (fun w h Y => PySem.W.kIn_of Y) ?T L60.math
  intro w mg fa h KX G hmg
  refine' Exists.elim (L60.all_mk KX G hmg ?aC_Memory ?pg_Memory ?hd_Memory ?po_Memory ?sa_Memory ?a_Memory_is_endless ?i_Memory_is_endless ?l_Memory_is_endless ?c_Memory_is_endless ?k_Memory_is_endless ?a_Memory_longest ?i_Memory_longest ?l_Memory_longest ?c_Memory_longest ?k_Memory_longest ?a_Memory_rank_all ?i_Memory_rank_all ?l_Memory_rank_all ?c_Memory_rank_all ?k_Memory_rank_all ?a_put_at ?l_put_at ?c_put_at ?k_put_at ?a_fresh_moves ?l_fresh_moves ?c_fresh_moves ?k_fresh_moves ?a_has_old ?l_has_old ?c_has_old ?k_has_old ?a_old_marks ?l_old_marks ?c_old_marks ?k_old_marks ?a_any_moves ?l_any_moves ?c_any_moves ?k_any_moves ?a_filled_stages ?l_filled_stages ?c_filled_stages ?k_filled_stages ?a_Memory_init ?i_Memory_init ?mk_Memory ?kc_Memory ?l_Memory_init ?c_Memory_init ?k_Memory_init ?a_is_integer ?l_is_integer ?c_is_integer ?k_is_integer ?a_is_between ?l_is_between ?c_is_between ?k_is_between ?a_is_row ?l_is_row ?c_is_row ?k_is_row ?a_is_policy ?l_is_policy ?c_is_policy ?k_is_policy ?a_check_policy ?l_check_policy ?c_check_policy ?k_check_policy ?a_forgets ?l_forgets ?c_forgets ?k_forgets ?a__law_later ?l__law_later ?c__law_later ?k__law_later ?a__law_begun ?l__law_begun ?c__law_begun ?k__law_begun ?a__law_starts ?l__law_starts ?c__law_starts ?k__law_starts ?a__law_forgotten ?l__law_forgotten ?c__law_forgotten ?k__law_forgotten ?a__law_asked ?l__law_asked ?c__law_asked ?k__law_asked ?a__law_draw ?l__law_draw ?c__law_draw ?k__law_draw ?a__law_policy ?l__law_policy ?c__law_policy ?k__law_policy ?a__law_queue ?l__law_queue ?c__law_queue ?k__law_queue ?a__law_recent ?l__law_recent ?c__law_recent ?k__law_recent ?a__law_table ?l__law_table ?c__law_table ?k__law_table ?a__law_right ?l__law_right ?c__law_right ?k__law_right ?a__law_pool ?l__law_pool ?c__law_pool ?k__law_pool ?a__law_cell ?l__law_cell ?c__law_cell ?k__law_cell ?a__law_seldom ?l__law_seldom ?c__law_seldom ?k__law_seldom ?a__law_blocks ?l__law_blocks ?c__law_blocks ?k__law_blocks ?a__law_lasting ?l__law_lasting ?c__law_lasting ?k__law_lasting ?a_law ?l_law ?c_law ?k_law ?na_Memory_edges ?na_Memory_ranks ?na_Memory_stages ?na_Memory_starts ?z_abs ?z_all ?z_bool ?z_divmod ?z_int ?z_isinstance ?z_len ?z_list ?z_max ?z_min ?z_range ?z_repr ?z_tuple ?g_MOST_LINES ?g_MOST_STATES) ?fin
  (case aC_Memory => k_is)
  (case pg_Memory => k_is)
  (case hd_Memory => k_is)
  (case po_Memory => k_is)
  (case sa_Memory => k_is)
  (case a_Memory_is_endless => k_is)
  (case i_Memory_is_endless => k_is)
  (case l_Memory_is_endless => k_is)
  (case c_Memory_is_endless => k_is)
  (case k_Memory_is_endless => k_is)
  (case a_Memory_longest => k_is)
  (case i_Memory_longest => k_is)
  (case l_Memory_longest => k_is)
  (case c_Memory_longest => k_is)
  (case k_Memory_longest => k_is)
  (case a_Memory_rank_all => k_is)
  (case i_Memory_rank_all => k_is)
  (case l_Memory_rank_all => k_is)
  (case c_Memory_rank_all => k_is)
  (case k_Memory_rank_all => k_is)
  (case a_put_at => k_is)
  (case l_put_at => k_is)
  (case c_put_at => k_is)
  (case k_put_at => k_is)
  (case a_fresh_moves => k_is)
  (case l_fresh_moves => k_is)
  (case c_fresh_moves => k_is)
  (case k_fresh_moves => k_is)
  (case a_has_old => k_is)
  (case l_has_old => k_is)
  (case c_has_old => k_is)
  (case k_has_old => k_is)
  (case a_old_marks => k_is)
  (case l_old_marks => k_is)
  (case c_old_marks => k_is)
  (case k_old_marks => k_is)
  (case a_any_moves => k_is)
  (case l_any_moves => k_is)
  (case c_any_moves => k_is)
  (case k_any_moves => k_is)
  (case a_filled_stages => k_is)
  (case l_filled_stages => k_is)
  (case c_filled_stages => k_is)
  (case k_filled_stages => k_is)
  (case a_Memory_init => k_is)
  (case i_Memory_init => k_is)
  (case mk_Memory => k_is)
  (case kc_Memory => k_is)
  (case l_Memory_init => k_is)
  (case c_Memory_init => k_is)
  (case k_Memory_init => k_is)
  (case a_is_integer => k_is)
  (case l_is_integer => k_is)
  (case c_is_integer => k_is)
  (case k_is_integer => k_is)
  (case a_is_between => k_is)
  (case l_is_between => k_is)
  (case c_is_between => k_is)
  (case k_is_between => k_is)
  (case a_is_row => k_is)
  (case l_is_row => k_is)
  (case c_is_row => k_is)
  (case k_is_row => k_is)
  (case a_is_policy => k_is)
  (case l_is_policy => k_is)
  (case c_is_policy => k_is)
  (case k_is_policy => k_is)
  (case a_check_policy => k_is)
  (case l_check_policy => k_is)
  (case c_check_policy => k_is)
  (case k_check_policy => k_is)
  (case a_forgets => k_is)
  (case l_forgets => k_is)
  (case c_forgets => k_is)
  (case k_forgets => k_is)
  (case a__law_later => k_is)
  (case l__law_later => k_is)
  (case c__law_later => k_is)
  (case k__law_later => k_is)
  (case a__law_begun => k_is)
  (case l__law_begun => k_is)
  (case c__law_begun => k_is)
  (case k__law_begun => k_is)
  (case a__law_starts => k_is)
  (case l__law_starts => k_is)
  (case c__law_starts => k_is)
  (case k__law_starts => k_is)
  (case a__law_forgotten => k_is)
  (case l__law_forgotten => k_is)
  (case c__law_forgotten => k_is)
  (case k__law_forgotten => k_is)
  (case a__law_asked => k_is)
  (case l__law_asked => k_is)
  (case c__law_asked => k_is)
  (case k__law_asked => k_is)
  (case a__law_draw => k_is)
  (case l__law_draw => k_is)
  (case c__law_draw => k_is)
  (case k__law_draw => k_is)
  (case a__law_policy => k_is)
  (case l__law_policy => k_is)
  (case c__law_policy => k_is)
  (case k__law_policy => k_is)
  (case a__law_queue => k_is)
  (case l__law_queue => k_is)
  (case c__law_queue => k_is)
  (case k__law_queue => k_is)
  (case a__law_recent => k_is)
  (case l__law_recent => k_is)
  (case c__law_recent => k_is)
  (case k__law_recent => k_is)
  (case a__law_table => k_is)
  (case l__law_table => k_is)
  (case c__law_table => k_is)
  (case k__law_table => k_is)
  (case a__law_right => k_is)
  (case l__law_right => k_is)
  (case c__law_right => k_is)
  (case k__law_right => k_is)
  (case a__law_pool => k_is)
  (case l__law_pool => k_is)
  (case c__law_pool => k_is)
  (case k__law_pool => k_is)
  (case a__law_cell => k_is)
  (case l__law_cell => k_is)
  (case c__law_cell => k_is)
  (case k__law_cell => k_is)
  (case a__law_seldom => k_is)
  (case l__law_seldom => k_is)
  (case c__law_seldom => k_is)
  (case k__law_seldom => k_is)
  (case a__law_blocks => k_is)
  (case l__law_blocks => k_is)
  (case c__law_blocks => k_is)
  (case k__law_blocks => k_is)
  (case a__law_lasting => k_is)
  (case l__law_lasting => k_is)
  (case c__law_lasting => k_is)
  (case k__law_lasting => k_is)
  (case a_law => k_is)
  (case l_law => k_is)
  (case c_law => k_is)
  (case k_law => k_is)
  (case na_Memory_edges => k_is)
  (case na_Memory_ranks => k_is)
  (case na_Memory_stages => k_is)
  (case na_Memory_starts => k_is)
  (case z_abs => k_is)
  (case z_all => k_is)
  (case z_bool => k_is)
  (case z_divmod => k_is)
  (case z_int => k_is)
  (case z_isinstance => k_is)
  (case z_len => k_is)
  (case z_list => k_is)
  (case z_max => k_is)
  (case z_min => k_is)
  (case z_range => k_is)
  (case z_repr => k_is)
  (case z_tuple => k_is)
  (case g_MOST_LINES => k_is)
  (case g_MOST_STATES => k_is)
  case fin =>
    rintro T ⟨rfl, hb⟩
    exact ⟨T.ct _ _, T.d_law, hb, fun base _ _ => L60.ok_law T⟩
