import PyProof.Rows.All
import HandS.ForMost
import HandS.Deep
import HandS.TupAny
import HandS.TupMul
import HandS.IsInst
import HandS.Flow
import HandS.Conv
import HandS.Star
import KE.KDictKeyed
import HandS.SetKeys
import HandS.RaiseMore
import HandS.Strs
import PyProof.FactsAll.list
import HandS.NoneIn
import HandS.Style
import HandS.Zip
import KE.GoesMore
import PyProof.ListStr
import KE.KDictDisplayH
import HandS.Small
import HandS.WordsDict
import KE.KDictCopyH
import HandS.Iter
import HandS.Remove
import PyProof.Rows.SetFrom
import HandS.Property
import HandS.SortKw
import PyProof.Rows.SetObj
import HandS.SetBool
import HandS.SetFor
import PyProof.Rows.ReprOcc
import PySem.Challenge.RW_missbounds_k55_plain_forms_drawn
set_option Elab.async false
set_option linter.all false
set_option maxRecDepth 100000
set_option maxHeartbeats 4000000
/-! text Z1 -/
namespace Zl
open PySem L2

/-! ## Data, memory, the relation to the abstract heap -/
inductive Dv where
  | non
  | bl (b : Bool)
  | int (i : Int)
  | str (x : Str)
  | tup (xs : List Dv)
  | loc (n : Nat)
  | rol (xs : List Dv)
  | ty (n : String)
  | pr (xs : List Dv)
  deriving Inhabited

inductive Ob where
  | lst (xs : List Dv)
  | ins (c : Nat) (fs : List (Str × Dv))
  | dct (kvs : List (Key × Dv))
  | dcn (kvs : List (NestedKey × Dv × Dv))
  | st (xs : List Int)
  | sk (xs : List Str)
  | lck
  | lckN (kvs : List (NestedKey × Dv × Dv))
  deriving Inhabited
/-- the classes' places; the program, the world -/
structure Ct where
  cls : Nat → Option Addr
  prg : Program
  wd : World
instance : CoeFun Ct (fun _ => Nat → Option Addr) := ⟨Ct.cls⟩
/-- keys that are tuples, nested -/
def nkL (f : Dv → Option NestedKey) : List Dv → Option (List NestedKey)
  | [] => some []
  | x :: xs => match f x with
    | some k => match nkL f xs with
      | some ks => some (k :: ks)
      | none => none
    | none => none
def nkN : Nat → Dv → Option NestedKey
  | _, .non => some .none
  | _, .bl b => some (.num (if b then 1 else 0))
  | _, .int i => some (.num i)
  | _, .str x => some (.text x)
  | _, .loc _ => none
  | _, .rol _ => none
  | _, .ty _ => none
  | _, .pr _ => none
  | 0, .tup _ => none
  | n + 1, .tup xs => match nkL (nkN n) xs with
    | some ks => some (.tup ks)
    | none => none
def keyN : Dv → Option NestedKey
  | .tup xs => nkN 8 (.tup xs)
  | .pr xs => nkN 8 (.tup xs)
  | _ => none
/-- a dict with such keys: where the keys stand, the values -/
def RawN (P : Program) (w : World) (h : Heap) (a : Addr) (xs : List (NestedKey × Addr × Value)) : Prop :=
  ∃ o es ep, h.get? a = some o ∧ o.ExactDict ∧ o.data = .dict es ep ∧ es.toList = xs.map (entryOfKey (nestedKind P w)) ∧ (xs.map (·.1)).Nodup ∧ xs.length ≤ sizeLine ∧ (a == sysModules) = false
def NDic (P : Program) (w : World) (a : Addr) (xs : List (NestedKey × Addr × Value)) : HO := .ext fun h => RawN P w h a xs

abbrev Mem := List Ob
abbrev En := List (Option Dv)
abbrev Frg := PySem.W.Frag

/-- a list that nothing here writes: locked, or of the written part -/
def SqF (K : Frg) (H : Hp) (a : Addr) (xs : List V) : Prop :=
  (∃ o, H a = some (.frz o (.lst xs))) ∨ ((∀ H' : Hp, SqL K H' a xs) ∧ ∃ o : Obj, K.lookup a = some o ∧ o.cls = .type "list")
theorem SqF.sq {K : Frg} {H : Hp} {a : Addr} {xs : List V} (h : SqF K H a xs) : SqL K H a xs := by
  rcases h with ⟨o, h⟩ | ⟨h, _⟩
  · exact .inl (.inr ⟨o, h⟩)
  · exact h H

/-- a tuple without a dict of its own: locked, or of the written part -/
def TupD (K : Frg) (H : Hp) (a : Addr) (xs : List V) : Prop :=
  (∃ o : Obj, H a = some (.frz o (.tup xs)) ∧ o.dict = none) ∨
    ∃ (o : Obj) (its : Array Value) (n : Nat), K.lookup a = some o ∧ o.cls = .type "tuple" ∧ o.dict = none ∧ o.data = .seq its n ∧ its.size ≤ sizeLine ∧ Vals xs its.toList
theorem TupD.sq {K : Frg} {H : Hp} {a : Addr} {xs : List V} (h : TupD K H a xs) : SqT K H a xs := by
  rcases h with ⟨o, h, _⟩ | ⟨o, its, n, h1, h2, _, h3, h4, h5⟩
  · exact .inl (.inr ⟨o, h⟩)
  · exact .inr ⟨o, its, n, h1, h2, h3, h4, h5⟩

mutual
inductive DV (K : Frg) (ρ : List Addr) (H : Hp) : Dv → V → Prop
  | non : DV K ρ H .non .non
  | bl (b : Bool) : DV K ρ H (.bl b) (.bl b)
  | int (i : Int) : DV K ρ H (.int i) (.int i)
  | str (x : Str) : DV K ρ H (.str x) (.str x)
  | tup {ds : List Dv} {vs : List V} {a : Addr} : TupD K H a vs → DVs K ρ H ds vs → DV K ρ H (.tup ds) (.ref a)
  | loc {n : Nat} {a : Addr} : ρ[n]? = some a → DV K ρ H (.loc n) (.ref a)
  | rol {ds : List Dv} {vs : List V} {a : Addr} : SqF K H a vs → DVs K ρ H ds vs → DV K ρ H (.rol ds) (.ref a)
  | ty (n : String) : DV K ρ H (.ty n) (.ty n)
  | pr {ds : List Dv} {vs : List V} {a : Addr} : SqT K H a vs → DVs K ρ H ds vs → DV K ρ H (.pr ds) (.ref a)
inductive DVs (K : Frg) (ρ : List Addr) (H : Hp) : List Dv → List V → Prop
  | nil : DVs K ρ H [] []
  | cons {d : Dv} {v : V} {ds : List Dv} {vs : List V} : DV K ρ H d v → DVs K ρ H ds vs → DVs K ρ H (d :: ds) (v :: vs)
end

structure Ext (K : Frg) (ρ : List Addr) (H : Hp) (ρ' : List Addr) (H' : Hp) : Prop where
  pre : ∀ (n : Nat) (a : Addr), ρ[n]? = some a → ρ'[n]? = some a
  tup : ∀ a vs, SqT K H a vs → SqT K H' a vs
  frz : ∀ a o u, H a = some (.frz o u) → H' a = some (.frz o u)
theorem Ext.refl {K : Frg} {ρ : List Addr} {H : Hp} : Ext K ρ H ρ H := ⟨fun _ _ h => h, fun _ _ h => h, fun _ _ _ h => h⟩
theorem Ext.trans {K : Frg} {ρ ρ1 ρ2 : List Addr} {H H1 H2 : Hp} (a : Ext K ρ H ρ1 H1) (b : Ext K ρ1 H1 ρ2 H2) : Ext K ρ H ρ2 H2 :=
  ⟨fun n x h => b.pre n x (a.pre n x h), fun x vs h => b.tup x vs (a.tup x vs h), fun x o u h => b.frz x o u (a.frz x o u h)⟩
theorem TupD.mono {K : Frg} {ρ ρ' : List Addr} {H H' : Hp} {a : Addr} {xs : List V} (h : TupD K H a xs) (e : Ext K ρ H ρ' H') : TupD K H' a xs := by
  rcases h with ⟨o, h, z⟩ | h
  · exact .inl ⟨o, e.frz _ _ _ h, z⟩
  · exact .inr h
theorem TupD.new {K : Frg} {H : Hp} {p : Addr} {o : Obj} {xs : List V} (z : o.dict = none) : TupD K (upd H p (.frz o (.tup xs))) p xs := .inl ⟨o, upd_same, z⟩
theorem SqF.mono {K : Frg} {ρ ρ' : List Addr} {H H' : Hp} {a : Addr} {xs : List V} (h : SqF K H a xs) (e : Ext K ρ H ρ' H') : SqF K H' a xs := by
  rcases h with ⟨o, h⟩ | h
  · exact .inl ⟨o, e.frz _ _ _ h⟩
  · exact .inr h

section
variable {K : Frg} {ρ ρ' : List Addr} {H H' : Hp}
mutual
theorem DV.mono (e : Ext K ρ H ρ' H') : ∀ {d : Dv} {v : V}, DV K ρ H d v → DV K ρ' H' d v
  | _, _, .non => .non
  | _, _, .bl b => .bl b
  | _, _, .int i => .int i
  | _, _, .str x => .str x
  | _, _, .tup h r => .tup (h.mono e) (DVs.mono e r)
  | _, _, .pr h r => .pr (e.tup _ _ h) (DVs.mono e r)
  | _, _, .loc h => .loc (e.pre _ _ h)
  | _, _, .rol h r => .rol (h.mono e) (DVs.mono e r)
  | _, _, .ty n => .ty n
theorem DVs.mono (e : Ext K ρ H ρ' H') : ∀ {ds : List Dv} {vs : List V}, DVs K ρ H ds vs → DVs K ρ' H' ds vs
  | _, _, .nil => .nil
  | _, _, .cons h r => .cons (DV.mono e h) (DVs.mono e r)
end
theorem DVs.length : ∀ {ds : List Dv} {vs : List V}, DVs K ρ H ds vs → ds.length = vs.length
  | _, _, .nil => rfl
  | _, _, .cons _ r => by rw [List.length_cons, List.length_cons, DVs.length r]
theorem DVs.append : ∀ {ds es : List Dv} {vs ws : List V}, DVs K ρ H ds vs → DVs K ρ H es ws → DVs K ρ H (ds ++ es) (vs ++ ws)
  | _, _, _, _, .nil, s => s
  | _, _, _, _, .cons h r, s => .cons h (DVs.append r s)
theorem DVs.get : ∀ {ds : List Dv} {vs : List V} {i : Nat} {d : Dv}, DVs K ρ H ds vs → ds[i]? = some d → ∃ v, vs[i]? = some v ∧ DV K ρ H d v
  | _, _, _, _, .nil, e => by simp at e
  | _, _, 0, _, .cons h _, e => by simp at e; subst e; exact ⟨_, rfl, h⟩
  | _, _, i + 1, d, .cons _ r, e => by
    obtain ⟨u, h1, h2⟩ := DVs.get (i := i) (d := d) r (by simpa using e)
    exact ⟨u, by simpa using h1, h2⟩
theorem DVs.set {x : Dv} {u : V} (h : DV K ρ H x u) : ∀ {ds : List Dv} {vs : List V} (i : Nat), DVs K ρ H ds vs → DVs K ρ H (ds.set i x) (vs.set i u)
  | _, _, _, .nil => .nil
  | _, _, 0, .cons _ t => .cons h t
  | _, _, i + 1, .cons q t => .cons q (DVs.set h i t)
theorem DVs.take : ∀ {ds : List Dv} {vs : List V} (n : Nat), DVs K ρ H ds vs → DVs K ρ H (ds.take n) (vs.take n)
  | _, _, 0, _ => .nil
  | _, _, _ + 1, .nil => .nil
  | _, _, n + 1, .cons r t => .cons r (DVs.take n t)
theorem DVs.drop : ∀ {ds : List Dv} {vs : List V} (n : Nat), DVs K ρ H ds vs → DVs K ρ H (ds.drop n) (vs.drop n)
  | _, _, 0, r => r
  | _, _, _ + 1, .nil => .nil
  | _, _, n + 1, .cons _ t => DVs.drop n t
theorem DVs.rep {ds : List Dv} {vs : List V} (h : DVs K ρ H ds vs) : ∀ k : Nat, DVs K ρ H (List.replicate k ds).flatten (List.replicate k vs).flatten
  | 0 => .nil
  | k + 1 => by
    rw [List.replicate_succ, List.replicate_succ, List.flatten_cons, List.flatten_cons]
    exact DVs.append h (DVs.rep h k)
end

/-- an instance's attributes -/
def FV (K : Frg) (ρ : List Addr) (H : Hp) (fs : List (Str × Dv)) (vfs : List (Str × V)) : Prop :=
  fs.map (·.1) = vfs.map (·.1) ∧ DVs K ρ H (fs.map (·.2)) (vfs.map (·.2))
def ObOk (K : Frg) (ct : Ct) (ρ : List Addr) (H : Hp) (a : Addr) : Ob → Prop
  | .lst ds => ∃ vs, H a = some (.lst vs) ∧ DVs K ρ H ds vs
  | .ins c fs => ∃ C dx vfs, ct c = some C ∧ H a = some (.ins C dx vfs) ∧ FV K ρ H fs vfs
  | .dct kvs => ∃ vs : List (Key × V), H a = some (.dK vs) ∧ kvs.map (·.1) = vs.map (·.1) ∧ DVs K ρ H (kvs.map (·.2)) (vs.map (·.2))
  | .dcn kvs => ∃ (xs : List (NestedKey × Addr × Value)) (vs : List V), H a = some (NDic ct.prg ct.wd a xs) ∧ kvs.map (·.1) = xs.map (·.1) ∧ (∀ p ∈ kvs, keyN p.2.1 = some p.1) ∧
      DVs K ρ H (kvs.map (·.2.1)) (xs.map fun x => V.ref x.2.1) ∧ DVs K ρ H (kvs.map (·.2.2)) vs ∧ Vals vs (xs.map (·.2.2))
  | .st xs => H a = some (.set (fun k => xs.any (· == k)) xs.length)
  | .sk xs => H a = some (SetK ct.prg ct.wd a (fun k => xs.any fun x => decide (k = Sum.inr x)) xs.length)
  | .lck => ∃ o u, H a = some (.frz o u)
  | .lckN kvs => ∃ (od : Obj) (xs : List (NestedKey × Addr × Value)) (vs : List V), H a = some (.frz od (NDic ct.prg ct.wd a xs)) ∧ kvs.map (·.1) = xs.map (·.1) ∧ (∀ p ∈ kvs, keyN p.2.1 = some p.1) ∧
      DVs K ρ H (kvs.map (·.2.1)) (xs.map fun x => V.ref x.2.1) ∧ DVs K ρ H (kvs.map (·.2.2)) vs ∧ Vals vs (xs.map (·.2.2))
def Ob.live : Ob → Bool
  | .lck => false
  | .lckN _ => false
  | _ => true
def softH : HO → Bool
  | .tup _ => false
  | .frz _ _ => false
  | _ => true
theorem soft_of {H : Hp} {a : Addr} {x : HO} (h : H a = some x) (hs : softH x = true) : (∀ vs, H a ≠ some (.tup vs)) ∧ ∀ o u, H a ≠ some (.frz o u) :=
  ⟨(fun vs q => by rw [h] at q; cases q; cases hs), (fun o u q => by rw [h] at q; cases q; cases hs)⟩
structure Rl (K : Frg) (ct : Ct) (ρ : List Addr) (M : Mem) (H : Hp) : Prop where
  len : ρ.length = M.length
  nd : ρ.Nodup
  ok : ∀ (n : Nat) o, M[n]? = some o → ∃ a, ρ[n]? = some a ∧ ObOk K ct ρ H a o
def EnOk (K : Frg) (ρ : List Addr) (H : Hp) (env : En) (σ : St) : Prop :=
  env.length = σ.length ∧ ∀ (i : Nat) d, env[i]? = some (some d) → ∃ v, σ[i]? = some (some v) ∧ DV K ρ H d v

section
variable {K : Frg} {ct : Ct} {ρ ρ' : List Addr} {M : Mem} {H H' : Hp} {a p : Addr}
theorem FV.mono {fs : List (Str × Dv)} {vfs : List (Str × V)} (h : FV K ρ H fs vfs) (e : Ext K ρ H ρ' H') : FV K ρ' H' fs vfs := ⟨h.1, h.2.mono e⟩
theorem ObOk.mono {o : Ob} (h : ObOk K ct ρ H a o) (e : Ext K ρ H ρ' H') (q : H' a = H a) : ObOk K ct ρ' H' a o := by
  cases o with
  | lst ds => obtain ⟨vs, h1, h2⟩ := h; exact ⟨vs, q.trans h1, h2.mono e⟩
  | ins c fs => obtain ⟨C, dx, vfs, h0, h1, h2⟩ := h; exact ⟨C, dx, vfs, h0, q.trans h1, h2.mono e⟩
  | dct kvs => obtain ⟨vs, h1, h2, h3⟩ := h; exact ⟨vs, q.trans h1, h2, h3.mono e⟩
  | dcn kvs => obtain ⟨xs, vs, h1, h2, h3, h4, h5, h6⟩ := h; exact ⟨xs, vs, q.trans h1, h2, h3, h4.mono e, h5.mono e, h6⟩
  | st xs => exact q.trans h
  | sk xs => exact q.trans h
  | lck => obtain ⟨o, u, h1⟩ := h; exact ⟨o, u, q.trans h1⟩
  | lckN kvs => obtain ⟨od, xs, vs, h1, h2, h3, h4, h5, h6⟩ := h; exact ⟨od, xs, vs, q.trans h1, h2, h3, h4.mono e, h5.mono e, h6⟩
theorem ObOk.there {o : Ob} (h : ObOk K ct ρ H a o) : H a ≠ none := by
  cases o with
  | lst ds => obtain ⟨vs, h1, h2⟩ := h; rw [h1]; simp
  | ins c fs => obtain ⟨C, dx, vfs, h0, h1, h2⟩ := h; rw [h1]; simp
  | dct kvs => obtain ⟨vs, h1, h2, h3⟩ := h; rw [h1]; simp
  | dcn kvs => obtain ⟨xs, vs, h1, h2⟩ := h; rw [h1]; simp
  | st xs => rw [show H a = _ from h]; simp
  | sk xs => rw [show H a = _ from h]; simp
  | lck => obtain ⟨o, u, h1⟩ := h; rw [h1]; simp
  | lckN kvs => obtain ⟨od, xs, vs, h1, h2⟩ := h; rw [h1]; simp
theorem ObOk.soft {o : Ob} (h : ObOk K ct ρ H a o) (hl : o.live = true := by rfl) : (∀ vs, H a ≠ some (.tup vs)) ∧ ∀ o u, H a ≠ some (.frz o u) := by
  cases o with
  | lst ds => obtain ⟨vs, h1, h2⟩ := h; rw [h1]; exact ⟨fun _ q => (by cases q), fun _ _ q => (by cases q)⟩
  | ins c fs => obtain ⟨C, dx, vfs, h0, h1, h2⟩ := h; rw [h1]; exact ⟨fun _ q => (by cases q), fun _ _ q => (by cases q)⟩
  | dct kvs => obtain ⟨vs, h1, h2, h3⟩ := h; rw [h1]; exact ⟨fun _ q => (by cases q), fun _ _ q => (by cases q)⟩
  | dcn kvs => obtain ⟨xs, vs, h1, h2⟩ := h; rw [h1]; exact ⟨fun _ q => (by cases q), fun _ _ q => (by cases q)⟩
  | st xs => rw [show H a = _ from h]; exact ⟨fun _ q => (by cases q), fun _ _ q => (by cases q)⟩
  | sk xs => rw [show H a = _ from h]; exact ⟨fun _ q => (by cases q), fun _ _ q => (by cases q)⟩
  | lck => cases hl
  | lckN kvs => cases hl
theorem EnOk.mono {env : En} {σ : St} (h : EnOk K ρ H env σ) (e : Ext K ρ H ρ' H') : EnOk K ρ' H' env σ :=
  ⟨h.1, fun i d q => let ⟨v, h1, h2⟩ := h.2 i d q; ⟨v, h1, h2.mono e⟩⟩
theorem EnOk.set {env : En} {σ : St} {d : Dv} {v : V} (h : EnOk K ρ H env σ) (i : Nat) (r : DV K ρ H d v) : EnOk K ρ H (env.set i (some d)) (σ.set i (some v)) := by
  refine ⟨by simp [h.1], fun j x q => ?_⟩
  by_cases hij : i = j
  · subst hij
    rw [List.getElem?_set] at q
    by_cases hl : i < env.length
    · rw [if_pos rfl, if_pos hl] at q
      cases q
      exact ⟨v, by rw [List.getElem?_set, if_pos rfl, if_pos (h.1 ▸ hl)], r⟩
    · rw [if_pos rfl, if_neg hl] at q; cases q
  · rw [List.getElem?_set_ne hij] at q
    obtain ⟨u, h1, h2⟩ := h.2 j x q
    exact ⟨u, by rw [List.getElem?_set_ne hij]; exact h1, h2⟩
theorem sqT_soft {vs : List V} {o' : HO} (h : SqT K H p vs) (ht : ∀ vs, H a ≠ some (.tup vs)) (hf : ∀ o u, H a ≠ some (.frz o u)) : SqT K (upd H a o') p vs := by
  rcases h with (h | ⟨o, h⟩) | h
  · have ne : p ≠ a := fun e => ht vs (e ▸ h)
    exact .inl (.inl (by rw [upd_ne ne]; exact h))
  · have ne : p ≠ a := fun e => hf o _ (e ▸ h)
    exact .inl (.inr ⟨o, by rw [upd_ne ne]; exact h⟩)
  · exact .inr h
theorem Ext.soft {o' : HO} (hp : ∀ (n : Nat) (a : Addr), ρ[n]? = some a → ρ'[n]? = some a) (ht : ∀ vs, H a ≠ some (.tup vs)) (hf : ∀ o u, H a ≠ some (.frz o u)) : Ext K ρ H ρ' (upd H a o') :=
  ⟨hp, fun b vs h => sqT_soft h ht hf, fun b o u h => by
    have ne : b ≠ a := fun e => hf o u (e ▸ h)
    rw [upd_ne ne]; exact h⟩
theorem Ext.fresh {o' : HO} (hn : H p = none) : Ext K ρ H ρ (upd H p o') :=
  Ext.soft (fun _ _ h => h) (fun _ q => by rw [hn] at q; cases q) fun _ _ q => by rw [hn] at q; cases q
theorem Rl.addr (r : Rl K ct ρ M H) {n : Nat} (h : ρ[n]? = some a) : ∃ o, M[n]? = some o ∧ ObOk K ct ρ H a o := by
  have hl : n < M.length := by
    rw [← r.len]
    exact (List.getElem?_eq_some_iff.mp h).1
  obtain ⟨b, h1, h2⟩ := r.ok n M[n] (List.getElem?_eq_getElem hl)
  rw [h] at h1; cases h1
  exact ⟨_, List.getElem?_eq_getElem hl, h2⟩
theorem Rl.ne (r : Rl K ct ρ M H) {n : Nat} (h : ρ[n]? = some a) (hn : H p = none) : a ≠ p := by
  obtain ⟨o, _, q⟩ := r.addr h
  intro e; subst e
  exact q.there hn
theorem Rl.tup (r : Rl K ct ρ M H) (hn : H p = none) (o' : HO) : Rl K ct ρ M (upd H p o') :=
  ⟨r.len, r.nd, fun n o h => by
    obtain ⟨b, h1, h2⟩ := r.ok n o h
    exact ⟨b, h1, h2.mono (Ext.fresh hn) (upd_ne (r.ne h1 hn))⟩⟩
theorem pre_app {p : Addr} : ∀ (n : Nat) (a : Addr), ρ[n]? = some a → (ρ ++ [p])[n]? = some a := fun n a h => by
  rw [List.getElem?_append_left (List.getElem?_eq_some_iff.mp h).1]; exact h
theorem Rl.notin (r : Rl K ct ρ M H) (hn : H p = none) : p ∉ ρ := fun hm => by
  obtain ⟨n, hn'⟩ := List.getElem?_of_mem hm
  exact r.ne hn' hn rfl
/-- a new cell -/
theorem Rl.new (r : Rl K ct ρ M H) {o : Ob} {o' : HO} (hn : H p = none) (ho : ObOk K ct (ρ ++ [p]) (upd H p o') p o) :
    Rl K ct (ρ ++ [p]) (M ++ [o]) (upd H p o') ∧ Ext K ρ H (ρ ++ [p]) (upd H p o') ∧ (ρ ++ [p])[M.length]? = some p := by
  have ex : Ext K ρ H (ρ ++ [p]) (upd H p o') := Ext.soft pre_app (fun _ q => by rw [hn] at q; cases q) fun _ _ q => by rw [hn] at q; cases q
  refine ⟨⟨by simp [r.len], ?_, fun n x h => ?_⟩, ex, by rw [← r.len]; simp⟩
  · rw [List.nodup_append]
    refine ⟨r.nd, by simp, fun x hx y hy e => ?_⟩
    have e2 : y = p := by simpa using hy
    subst e2; subst e
    exact r.notin hn hx
  · by_cases hl : n < M.length
    · rw [List.getElem?_append_left hl] at h
      obtain ⟨b, h1, h2⟩ := r.ok n x h
      exact ⟨b, pre_app n b h1, h2.mono ex (upd_ne (r.ne h1 hn))⟩
    · have hl2 : n = M.length := by
        have := (List.getElem?_eq_some_iff.mp h).1
        simp at this; omega
      subst hl2
      simp at h; subst h
      exact ⟨p, by rw [← r.len]; simp, ho⟩
/-- a cell written -/
theorem Rl.put (r : Rl K ct ρ M H) {n : Nat} {o : Ob} {o' x : HO} (h : ρ[n]? = some a) (hx : H a = some x) (ho : ObOk K ct ρ (upd H a o') a o) (hs : softH x = true := by rfl) :
    Rl K ct ρ (M.set n o) (upd H a o') ∧ Ext K ρ H ρ (upd H a o') := by
  obtain ⟨oo, hm, hk⟩ := r.addr h
  have ex : Ext K ρ H ρ (upd H a o') := Ext.soft (fun _ _ h => h) (soft_of hx hs).1 (soft_of hx hs).2
  refine ⟨⟨by simp [r.len], r.nd, fun m x hx => ?_⟩, ex⟩
  by_cases hmn : n = m
  · subst hmn
    rw [List.getElem?_set, if_pos rfl] at hx
    have hl := (List.getElem?_eq_some_iff.mp hm).1
    rw [if_pos hl] at hx
    cases hx
    exact ⟨a, h, ho⟩
  · rw [List.getElem?_set_ne hmn] at hx
    obtain ⟨b, h1, h2⟩ := r.ok m x hx
    refine ⟨b, h1, h2.mono ex (upd_ne fun e => ?_)⟩
    subst e
    obtain ⟨i1, e1⟩ := List.getElem?_eq_some_iff.mp h1
    obtain ⟨i2, e2⟩ := List.getElem?_eq_some_iff.mp h
    exact hmn ((List.getElem_inj r.nd).mp (e2.trans e1.symm))
theorem Rl.newL (r : Rl K ct ρ M H) {ds : List Dv} {vs : List V} (hn : H p = none) (hd : DVs K ρ H ds vs) :
    Rl K ct (ρ ++ [p]) (M ++ [.lst ds]) (upd H p (.lst vs)) ∧ Ext K ρ H (ρ ++ [p]) (upd H p (.lst vs)) ∧ (ρ ++ [p])[M.length]? = some p := by
  refine r.new hn ⟨vs, upd_same, hd.mono (Ext.soft pre_app (fun _ q => by rw [hn] at q; cases q) fun _ _ q => by rw [hn] at q; cases q)⟩
theorem Rl.putL (r : Rl K ct ρ M H) {n : Nat} {ds : List Dv} {vs ws : List V} (h : ρ[n]? = some a) (hx : H a = some (.lst ws)) (hd : DVs K ρ H ds vs) :
    Rl K ct ρ (M.set n (.lst ds)) (upd H a (.lst vs)) ∧ Ext K ρ H ρ (upd H a (.lst vs)) := by
  obtain ⟨oo, hm, hk⟩ := r.addr h
  exact r.put h hx ⟨vs, upd_same, hd.mono (Ext.soft (fun _ _ h => h) (soft_of hx rfl).1 (soft_of hx rfl).2)⟩
theorem Rl.lst (r : Rl K ct ρ M H) {n : Nat} {ds : List Dv} (hm : M[n]? = some (.lst ds)) {v : V} (hv : DV K ρ H (.loc n) v) :
    ∃ a vs, v = .ref a ∧ ρ[n]? = some a ∧ H a = some (.lst vs) ∧ DVs K ρ H ds vs := by
  obtain ⟨a, h1, vs, h2, h3⟩ := r.ok n _ hm
  cases hv with
  | loc h => rw [h] at h1; cases h1; exact ⟨_, vs, rfl, h, h2, h3⟩
end

/-! ## The judgements -/
def bnd {α β : Type} (r : Option (α × Mem)) (k : α → Mem → Option (β × Mem)) : Option (β × Mem) :=
  match r with
  | none => none
  | some (a, M) => k a M
theorem bnd_some {α β : Type} {r : Option (α × Mem)} {k : α → Mem → Option (β × Mem)} {y : β × Mem} (h : bnd r k = some y) : ∃ a M, r = some (a, M) ∧ k a M = some y := by
  cases r with
  | none => cases h
  | some p => exact ⟨p.1, p.2, rfl, h⟩

abbrev FE := En → Mem → Option (Dv × Mem)
abbrev FT := En → Mem → Option (Bool × Mem)
abbrev FA := En → Mem → Option (List Dv × Mem)

section
variable (K : Frg) (ct : Ct)
/-- what must follow: the end (d, M') and all that may stand for it -/
def Aft (ρ : List Addr) (H : Hp) (M' : Mem) (Z : List Addr → Hp → Prop) : Prop := ∀ ρ' H', Ext K ρ H ρ' H' → Rl K ct ρ' M' H' → Z ρ' H'
def tE (f : FE) : TE := fun σ H Q => ∃ ρ M env, Rl K ct ρ M H ∧ EnOk K ρ H env σ ∧ ∃ d M', f env M = some (d, M') ∧ Aft K ct ρ H M' fun ρ' H' => ∀ v, DV K ρ' H' d v → Q v H'
def tT (f : FT) : TT := fun σ H Q => ∃ ρ M env, Rl K ct ρ M H ∧ EnOk K ρ H env σ ∧ ∃ b M', f env M = some (b, M') ∧ Aft K ct ρ H M' fun _ H' => Q b H'
def tA (f : FA) : TA := fun σ H Q => ∃ ρ M env, Rl K ct ρ M H ∧ EnOk K ρ H env σ ∧ ∃ ds M', f env M = some (ds, M') ∧ Aft K ct ρ H M' fun ρ' H' => ∀ vs, DVs K ρ' H' ds vs → Q vs H'
def tO (h : Dv → Dv → Mem → Option (Dv × Mem)) : R2 := fun x y H Q => ∃ ρ M d e, Rl K ct ρ M H ∧ DV K ρ H d x ∧ DV K ρ H e y ∧ ∃ z M', h d e M = some (z, M') ∧ Aft K ct ρ H M' fun ρ' H' => ∀ v, DV K ρ' H' z v → Q v H'
def tU (h : Dv → Mem → Option (Dv × Mem)) : V → Hp → VK → Prop := fun x H Q => ∃ ρ M d, Rl K ct ρ M H ∧ DV K ρ H d x ∧ ∃ z M', h d M = some (z, M') ∧ Aft K ct ρ H M' fun ρ' H' => ∀ v, DV K ρ' H' z v → Q v H'
def tC (h : List Dv → Mem → Option (Dv × Mem)) : List V → Hp → VK → Prop := fun xs H Q => ∃ ρ M ds, Rl K ct ρ M H ∧ DVs K ρ H ds xs ∧ ∃ z M', h ds M = some (z, M') ∧ Aft K ct ρ H M' fun ρ' H' => ∀ v, DV K ρ' H' z v → Q v H'
end
theorem Aft.later {K : Frg} {ct : Ct} {ρ ρ1 : List Addr} {H H1 : Hp} {M' : Mem} {Z : List Addr → Hp → Prop} (h : Aft K ct ρ H M' Z) (e : Ext K ρ H ρ1 H1) : Aft K ct ρ1 H1 M' Z := fun ρ' H' x r => h ρ' H' (e.trans x) r

abbrev SE (X : Cx) (ct : Ct) (e : Expr) (f : FE) : Prop := PE X e (tE X.K ct f)
abbrev ST (X : Cx) (ct : Ct) (e : Expr) (f : FT) : Prop := PT X e (tT X.K ct f)
abbrev SW (X : Cx) (ct : Ct) (e : Expr) (f : FT) : Prop := PW X e (tT X.K ct f)
abbrev SA (X : Cx) (ct : Ct) (es : List Expr) (f : FA) : Prop := PA X es (tA X.K ct f)
abbrev SO (X : Cx) (ct : Ct) (g : Value → Value → Sem Value) (h : Dv → Dv → Mem → Option (Dv × Mem)) : Prop := OpR X g (tO X.K ct h)
abbrev SU (X : Cx) (ct : Ct) (g : Value → Sem Value) (h : Dv → Mem → Option (Dv × Mem)) : Prop := UnR X g (tU X.K ct h)
abbrev SC (X : Cx) (ct : Ct) (g : Value) (h : List Dv → Mem → Option (Dv × Mem)) : Prop := CallR X g (tC X.K ct h)

section
variable {X : Cx} {ct : Ct} {e a b c : Expr} {pos : Pos}
theorem PE.imp {t t' : TE} (h : PE X e t) (k : ∀ σ H Q, t' σ H Q → t σ H Q) : PE X e t' := ⟨fun pins s σ H Q I w => h.run pins s σ H Q I (k σ H Q w)⟩
theorem PT.imp {t t' : TT} (h : PT X e t) (k : ∀ σ H Q, t' σ H Q → t σ H Q) : PT X e t' := ⟨fun pins s σ H Q I w => h.run pins s σ H Q I (k σ H Q w)⟩
theorem PW.imp {t t' : TT} (h : PW X e t) (k : ∀ σ H Q, t' σ H Q → t σ H Q) : PW X e t' := ⟨fun wh pins s σ H Q I w => h.run wh pins s σ H Q I (k σ H Q w)⟩
theorem PA.imp {es : List Expr} {t t' : TA} (h : PA X es t) (k : ∀ σ H Q, t' σ H Q → t σ H Q) : PA X es t' := ⟨fun pos pins s σ H Q I w => h.run pos pins s σ H Q I (k σ H Q w)⟩

/-! ### names and constants -/
def fV (i : Nat) : FE := fun env M => match env[i]? with
  | some (some d) => some (d, M)
  | _ => none
def fK (d : Dv) : FE := fun _ M => some (d, M)
theorem tE.const {d : Dv} {v : V} {σ : St} {H : Hp} {Q : VK} (hv : ∀ ρ H, DV X.K ρ H d v) (h : tE X.K ct (fK d) σ H Q) : Q v H := by
  obtain ⟨ρ, M, env, r, he, d', M', hf, hq⟩ := h
  cases hf
  exact hq ρ H .refl r v (hv ρ H)
theorem se_var {i : Nat} {x : Str} (hN : X.N[i]? = some x) (hv : Vis X.env.scope x) (hd : (x == ("__debug__" : Str)) = false := by decide) (hcd : (x == ("__classdict__" : Str)) = false := by decide) : SE X ct (.Name x pos) (fV i) :=
  PE.imp (pe_var hN hv hd hcd) fun σ H Q ⟨ρ, M, env, r, he, d, M', hf, hq⟩ => by
    unfold fV at hf
    split at hf
    · rename_i d' e'
      cases hf
      obtain ⟨v, h1, h2⟩ := he.2 i _ e'
      exact ⟨v, h1, hq ρ H .refl r v h2⟩
    · cases hf
theorem se_int {i j} : SE X ct (.Constant (.int i) j pos) (fK (.int i)) := PE.imp pe_int fun _ _ _ h => tE.const (fun _ _ => .int i) h
theorem se_bl {b j} : SE X ct (.Constant (.bool b) j pos) (fK (.bl b)) := PE.imp pe_bl fun _ _ _ h => tE.const (fun _ _ => .bl b) h
theorem se_non {j} : SE X ct (.Constant .none j pos) (fK .non) := PE.imp pe_non fun _ _ _ h => tE.const (fun _ _ => .non) h
theorem se_str {x j} : SE X ct (.Constant (.str x) j pos) (fK (.str x)) := PE.imp pe_str fun _ _ _ h => tE.const (fun _ _ => .str x) h
/-- a module's constant -/
theorem se_glob {x : Str} {d : Dv} {v : V} {u : Value} (hg : Gl X x) (hm : X.mg x = some u) (r : RelV v u) (hv : ∀ ρ H, DV X.K ρ H d v) (hd : (x == ("__debug__" : Str)) = false := by decide) : SE X ct (.Name x pos) (fK d) :=
  PE.imp (pe_glob hg hm r hd) fun _ _ _ h => tE.const hv h

/-! ### operators -/
def fO (h : Dv → Dv → Mem → Option (Dv × Mem)) (fa fb : FE) : FE := fun env M => bnd (fa env M) fun x M1 => bnd (fb env M1) fun y M2 => h x y M2
def fU (h : Dv → Mem → Option (Dv × Mem)) (fa : FE) : FE := fun env M => bnd (fa env M) h
variable {fa fb fc : FE} {h : Dv → Dv → Mem → Option (Dv × Mem)}
theorem op_imp {σ : St} {H : Hp} {Q : VK} (w : tE X.K ct (fO h fa fb) σ H Q) : tOp (tO X.K ct h) (tE X.K ct fa) (tE X.K ct fb) σ H Q := by
  obtain ⟨ρ, M, env, r, he, d, M', hf, hq⟩ := w
  obtain ⟨x, M1, h1, hf⟩ := bnd_some hf
  obtain ⟨y, M2, h2, h3⟩ := bnd_some hf
  exact ⟨ρ, M, env, r, he, x, M1, h1, fun ρ1 H1 e1 r1 v dv => ⟨ρ1, M1, env, r1, he.mono e1, y, M2, h2, fun ρ2 H2 e2 r2 w dw => ⟨ρ2, M2, x, y, r2, dv.mono e2, dw, d, M', h3, hq.later (e1.trans e2)⟩⟩⟩
theorem se_op {op : Operator} (ho : SO X ct (binaryOp op) h) (ha : SE X ct a fa) (hb : SE X ct b fb) : SE X ct (.BinOp a op b pos) (fO h fa fb) :=
  PE.imp (pe_op ho ha hb) fun _ _ _ w => op_imp w
theorem se_cmp {op : CmpOp} (ho : SO X ct (compareOp op) h) (ha : SE X ct a fa) (hb : SE X ct b fb) (hm : behindInMarks op b = false) : SE X ct (.Compare a [op] [b] pos) (fO h fa fb) :=
  PE.imp (pe_cmpR ho ha hb hm) fun _ _ _ w => op_imp w
theorem se_un {op : UnaryOp} {h : Dv → Mem → Option (Dv × Mem)} (ho : SU X ct (unaryOp op) h) (ha : SE X ct a fa) : SE X ct (.UnaryOp op a pos) (fU h fa) :=
  PE.imp (pe_un ho ha) fun σ H Q ⟨ρ, M, env, r, he, d, M', hf, hq⟩ => by
    obtain ⟨x, M1, h1, hf⟩ := bnd_some hf
    exact ⟨ρ, M, env, r, he, x, M1, h1, fun ρ1 H1 e1 r1 v dv => ⟨ρ1, M1, x, r1, dv, d, M', hf, hq.later e1⟩⟩
/-- a < b < c -/
def fChain (h h' : Dv → Dv → Mem → Option (Dv × Mem)) (fa fb fc : FE) : FE := fun env M => bnd (fa env M) fun x M1 => bnd (fb env M1) fun y M2 => bnd (h x y M2) fun z M3 =>
  match z with
  | .bl true => bnd (fc env M3) fun w M4 => h' y w M4
  | .bl false => some (.bl false, M3)
  | _ => none
theorem se_chain {op op' : CmpOp} {h' : Dv → Dv → Mem → Option (Dv × Mem)} (ho : SO X ct (compareOp op) h) (ho' : SO X ct (compareOp op') h') (ha : SE X ct a fa) (hb : SE X ct b fb) (hc : SE X ct c fc)
    (hm : lastMarks [op, op'] [b, c] = false := by with_unfolding_all rfl) : SE X ct (.Compare a [op, op'] [b, c] pos) (fChain h h' fa fb fc) :=
  PE.imp (pe_chain ho ho' ha hb hc hm) fun σ H Q ⟨ρ, M, env, r, he, d, M', hf, hq⟩ => by
    obtain ⟨x, M1, h1, hf⟩ := bnd_some hf
    obtain ⟨y, M2, h2, hf⟩ := bnd_some hf
    obtain ⟨z, M3, h3, hf⟩ := bnd_some hf
    refine ⟨ρ, M, env, r, he, x, M1, h1, fun ρ1 H1 e1 r1 v dv => ⟨ρ1, M1, env, r1, he.mono e1, y, M2, h2, fun ρ2 H2 e2 r2 w dw => ⟨ρ2, M2, x, y, r2, dv.mono e2, dw, z, M3, h3, fun ρ3 H3 e3 r3 u du => ?_⟩⟩⟩
    split at hf
    · cases du
      obtain ⟨t, M4, h4, hf⟩ := bnd_some hf
      refine ⟨true, rfl, ?_⟩
      rw [if_pos rfl]
      exact ⟨ρ3, M3, env, r3, ((he.mono e1).mono e2).mono e3, t, M4, h4, fun ρ4 H4 e4 r4 u4 du4 => ⟨ρ4, M4, y, t, r4, (dw.mono e3).mono e4, du4, d, M', hf, hq.later (((e1.trans e2).trans e3).trans e4)⟩⟩
    · cases du
      cases hf
      refine ⟨false, rfl, ?_⟩
      rw [if_neg (by decide)]
      exact hq ρ3 H3 ((e1.trans e2).trans e3) r3 _ (.bl false)
    · cases hf
end
end Zl

/-! text Z2 -/
namespace Zl
open PySem L2

section
variable {X : Cx} {ct : Ct} {e a b c : Expr} {pos : Pos} {fa fb fc : FE} {ft fu : FT} {rest : List Expr}
/-! ### tests -/
/-- a value that is a bool, as a test -/
def fB (f : FE) : FT := fun env M => bnd (f env M) fun d M1 => match d with
  | .bl b => some (b, M1)
  | _ => none
theorem b_imp {t : TE} {σ : St} {H : Hp} {Q : Bool → Hp → Prop} (w : tT X.K ct (fB fa) σ H Q) : tTest (tE X.K ct fa) σ H Q := by
  obtain ⟨ρ, M, env, r, he, d, M', hf, hq⟩ := w
  obtain ⟨x, M1, h1, hf⟩ := bnd_some hf
  split at hf
  · cases hf
    exact ⟨ρ, M, env, r, he, _, _, h1, fun ρ1 H1 e1 r1 v dv => by cases dv; exact ⟨_, rfl, hq ρ1 H1 e1 r1⟩⟩
  · cases hf
theorem st_val (h : SE X ct e fa) (he : ∀ whole, isTrue e X.env whole = (do let v ← whole; standAt e.pos; holding [v] (truthy v)) := by intro _; rfl) : ST X ct e (fB fa) :=
  PT.imp (pt_val h he) fun _ _ _ w => b_imp (t := tE X.K ct fa) w
theorem st_cmp {op : CmpOp} {h : Dv → Dv → Mem → Option (Dv × Mem)} (ho : SO X ct (compareOp op) h) (ha : SE X ct a fa) (hb : SE X ct b fb) (hm : behindInMarks op b = false) : ST X ct (.Compare a [op] [b] pos) (fB (fO h fa fb)) :=
  PT.imp (pt_cmpR ho ha hb hm) fun σ H Q w => by
    obtain ⟨ρ, M, env, r, he, d, M', hf, hq⟩ := w
    obtain ⟨x, M1, h1, hf⟩ := bnd_some hf
    split at hf
    · cases hf
      exact op_imp ⟨ρ, M, env, r, he, _, _, h1, fun ρ1 H1 e1 r1 v dv => by cases dv; exact ⟨_, rfl, hq ρ1 H1 e1 r1⟩⟩
    · cases hf
theorem st_chain {op op' : CmpOp} {h h' : Dv → Dv → Mem → Option (Dv × Mem)} (ho : SO X ct (compareOp op) h) (ho' : SO X ct (compareOp op') h') (ha : SE X ct a fa) (hb : SE X ct b fb) (hc : SE X ct c fc)
    (hm : lastMarks [op, op'] [b, c] = false := by with_unfolding_all rfl) : ST X ct (.Compare a [op, op'] [b, c] pos) (fB (fChain h h' fa fb fc)) := by
  refine PT.imp (pt_chain ho ho' ha hb hc hm) fun σ H Q w => ?_
  obtain ⟨ρ, M, env, r, he, d, M', hf, hq⟩ := w
  obtain ⟨x0, M0, h0, hf0⟩ := bnd_some hf
  have hz : ∃ k, x0 = Dv.bl k ∧ d = k ∧ M' = M0 := by
    split at hf0
    · cases hf0; exact ⟨_, rfl, rfl, rfl⟩
    · cases hf0
  obtain ⟨k, rfl, rfl, rfl⟩ := hz
  obtain ⟨x, M1, h1, h0⟩ := bnd_some h0
  obtain ⟨y, M2, h2, h0⟩ := bnd_some h0
  obtain ⟨z, M3, h3, h0⟩ := bnd_some h0
  refine ⟨ρ, M, env, r, he, x, M1, h1, fun ρ1 H1 e1 r1 v dv => ⟨ρ1, M1, env, r1, he.mono e1, y, M2, h2, fun ρ2 H2 e2 r2 w dw => ⟨ρ2, M2, x, y, r2, dv.mono e2, dw, z, M3, h3, fun ρ3 H3 e3 r3 u du => ?_⟩⟩⟩
  split at h0
  · cases du
    obtain ⟨t, M4, h4, h0⟩ := bnd_some h0
    refine ⟨true, rfl, ?_⟩
    rw [if_pos rfl]
    exact ⟨ρ3, M3, env, r3, ((he.mono e1).mono e2).mono e3, t, M4, h4, fun ρ4 H4 e4 r4 u4 du4 => ⟨ρ4, M4, y, t, r4, (dw.mono e3).mono e4, du4, _, _, h0, fun ρ5 H5 e5 r5 u5 du5 => by
      cases du5
      exact ⟨_, rfl, hq ρ5 H5 ((((e1.trans e2).trans e3).trans e4).trans e5) r5⟩⟩⟩
  · cases du
    cases h0
    refine ⟨false, rfl, ?_⟩
    rw [if_neg (by decide)]
    exact ⟨_, rfl, hq ρ3 H3 ((e1.trans e2).trans e3) r3⟩
  · cases h0
/-- a value's truth -/
def fTr (f : FE) : FT := fun env M => bnd (f env M) fun d M1 => match d with
  | .non => some (false, M1)
  | .bl b => some (b, M1)
  | .int i => some (i != 0, M1)
  | .str x => if x.length ≤ sizeLine then some ((x.length : Int) != 0, M1) else none
  | .tup xs => some (!xs.isEmpty, M1)
  | .rol xs => some (!xs.isEmpty, M1)
  | .loc n => match M1[n]? with
    | some (.lst xs) => some (!xs.isEmpty, M1)
    | _ => none
  | _ => none
theorem isEmpty_dvs {K : Frg} {ρ : List Addr} {H : Hp} {ds : List Dv} {vs : List V} (h : DVs K ρ H ds vs) : vs.isEmpty = ds.isEmpty := by cases h <;> rfl
theorem st_truth (h : SE X ct e fa) (he : ∀ whole, isTrue e X.env whole = (do let v ← whole; standAt e.pos; holding [v] (truthy v)) := by intro _; rfl) : ST X ct e (fTr fa) :=
  PT.imp (pt_truth h he) fun σ H Q ⟨ρ, M, env, r, hen, d, M', hf, hq⟩ => by
    obtain ⟨x, M1, h1, hf⟩ := bnd_some hf
    refine ⟨ρ, M, env, r, hen, x, M1, h1, fun ρ1 H1 e1 r1 v dv => ?_⟩
    cases x with
    | non => cases hf; cases dv; exact ⟨_, rfl, hq ρ1 H1 e1 r1⟩
    | bl b => cases hf; cases dv; exact ⟨_, rfl, hq ρ1 H1 e1 r1⟩
    | int i => cases hf; cases dv; exact ⟨_, rfl, hq ρ1 H1 e1 r1⟩
    | str x =>
      dsimp only at hf
      split at hf
      · rename_i hl
        cases hf; cases dv; exact ⟨_, ⟨hl, rfl⟩, hq ρ1 H1 e1 r1⟩
      · cases hf
    | tup xs =>
      cases hf
      cases dv with
      | tup hs hd => exact ⟨_, .inr (.inl ⟨_, hs.sq, by rw [isEmpty_dvs hd]⟩), hq ρ1 H1 e1 r1⟩
    | rol xs =>
      cases hf
      cases dv with
      | rol hs hd => exact ⟨_, .inl ⟨_, hs.sq, by rw [isEmpty_dvs hd]⟩, hq ρ1 H1 e1 r1⟩
    | loc n =>
      dsimp only at hf
      split at hf
      · rename_i xs hm
        cases hf
        obtain ⟨a, vs, rfl, h2, h3, h4⟩ := r1.lst hm dv
        exact ⟨_, .inl ⟨vs, SqL.of h3, by rw [isEmpty_dvs h4]⟩, hq ρ1 H1 e1 r1⟩
      · cases hf
    | ty n => cases hf
    | pr xs => cases hf
/-- not -/
def fNotT (f : FT) : FT := fun env M => bnd (f env M) fun b M1 => some (!b, M1)
theorem st_not (h : ST X ct a ft) : ST X ct (.UnaryOp .Not a pos) (fNotT ft) :=
  PT.imp (pt_not h) fun σ H Q ⟨ρ, M, env, r, he, d, M', hf, hq⟩ => by
    obtain ⟨x, M1, h1, hf⟩ := bnd_some hf
    cases hf
    exact ⟨ρ, M, env, r, he, x, _, h1, fun ρ1 H1 e1 r1 => hq ρ1 H1 e1 r1⟩
def fAndT (f g : FT) : FT := fun env M => bnd (f env M) fun b M1 => if b then g env M1 else some (false, M1)
def fOrT (f g : FT) : FT := fun env M => bnd (f env M) fun b M1 => if b then some (true, M1) else g env M1
theorem sw_and1 (h : ST X ct a ft) : SW X ct (.BoolOp .And [a] pos) ft := pw_and1 h
theorem sw_or1 (h : ST X ct a ft) : SW X ct (.BoolOp .Or [a] pos) ft := pw_or1 h
theorem sw_and (h : ST X ct a ft) (k : SW X ct (.BoolOp .And (b :: rest) pos) fu) : SW X ct (.BoolOp .And (a :: b :: rest) pos) (fAndT ft fu) :=
  PW.imp (pw_and h k) fun σ H Q ⟨ρ, M, env, r, he, d, M', hf, hq⟩ => by
    obtain ⟨x, M1, h1, hf⟩ := bnd_some hf
    refine ⟨ρ, M, env, r, he, x, M1, h1, fun ρ1 H1 e1 r1 => ?_⟩
    cases x with
    | true =>
      rw [if_pos rfl]
      exact ⟨ρ1, M1, env, r1, he.mono e1, d, M', hf, hq.later e1⟩
    | false =>
      cases hf
      rw [if_neg (by decide)]
      exact hq ρ1 H1 e1 r1
theorem sw_or (h : ST X ct a ft) (k : SW X ct (.BoolOp .Or (b :: rest) pos) fu) : SW X ct (.BoolOp .Or (a :: b :: rest) pos) (fOrT ft fu) :=
  PW.imp (pw_or h k) fun σ H Q ⟨ρ, M, env, r, he, d, M', hf, hq⟩ => by
    obtain ⟨x, M1, h1, hf⟩ := bnd_some hf
    refine ⟨ρ, M, env, r, he, x, M1, h1, fun ρ1 H1 e1 r1 => ?_⟩
    cases x with
    | false =>
      rw [if_neg (by decide)]
      exact ⟨ρ1, M1, env, r1, he.mono e1, d, M', hf, hq.later e1⟩
    | true =>
      cases hf
      rw [if_pos rfl]
      exact hq ρ1 H1 e1 r1
theorem SW.st (h : SW X ct e ft) : ST X ct e ft := PW.pt h
/-! ### as values: all but the last one bools -/
def fAndV (f g : FE) : FE := fun env M => bnd (f env M) fun d M1 => match d with
  | .bl true => g env M1
  | .bl false => some (.bl false, M1)
  | _ => none
def fOrV (f g : FE) : FE := fun env M => bnd (f env M) fun d M1 => match d with
  | .bl true => some (.bl true, M1)
  | .bl false => g env M1
  | _ => none
theorem se_one {op} (h : SE X ct a fa) : SE X ct (.BoolOp op [a] pos) fa := pe_one h
theorem se_and (h : SE X ct a fa) (k : SE X ct (.BoolOp .And (b :: rest) pos) fb) : SE X ct (.BoolOp .And (a :: b :: rest) pos) (fAndV fa fb) :=
  PE.imp (pe_and h k) fun σ H Q ⟨ρ, M, env, r, he, d, M', hf, hq⟩ => by
    obtain ⟨x, M1, h1, hf⟩ := bnd_some hf
    refine ⟨ρ, M, env, r, he, x, M1, h1, fun ρ1 H1 e1 r1 v dv => ?_⟩
    split at hf
    · cases dv
      refine ⟨true, rfl, ?_⟩
      rw [if_pos rfl]
      exact ⟨ρ1, M1, env, r1, he.mono e1, d, M', hf, hq.later e1⟩
    · cases dv; cases hf
      refine ⟨false, rfl, ?_⟩
      rw [if_neg (by decide)]
      exact hq ρ1 H1 e1 r1 _ (.bl false)
    · cases hf
theorem se_or (h : SE X ct a fa) (k : SE X ct (.BoolOp .Or (b :: rest) pos) fb) : SE X ct (.BoolOp .Or (a :: b :: rest) pos) (fOrV fa fb) :=
  PE.imp (pe_or h k) fun σ H Q ⟨ρ, M, env, r, he, d, M', hf, hq⟩ => by
    obtain ⟨x, M1, h1, hf⟩ := bnd_some hf
    refine ⟨ρ, M, env, r, he, x, M1, h1, fun ρ1 H1 e1 r1 v dv => ?_⟩
    split at hf
    · cases dv; cases hf
      refine ⟨true, rfl, ?_⟩
      rw [if_pos rfl]
      exact hq ρ1 H1 e1 r1 _ (.bl true)
    · cases dv
      refine ⟨false, rfl, ?_⟩
      rw [if_neg (by decide)]
      exact ⟨ρ1, M1, env, r1, he.mono e1, d, M', hf, hq.later e1⟩
    · cases hf
def fNotV (f : FE) : FE := fun env M => bnd (f env M) fun d M1 => match d with
  | .bl b => some (.bl (!b), M1)
  | _ => none
theorem se_not (h : SE X ct a fa) : SE X ct (.UnaryOp .Not a pos) (fNotV fa) :=
  PE.imp (pe_not h) fun σ H Q ⟨ρ, M, env, r, he, d, M', hf, hq⟩ => by
    obtain ⟨x, M1, h1, hf⟩ := bnd_some hf
    refine ⟨ρ, M, env, r, he, x, M1, h1, fun ρ1 H1 e1 r1 v dv => ?_⟩
    split at hf
    · cases dv; cases hf
      exact ⟨_, rfl, hq ρ1 H1 e1 r1 _ (.bl _)⟩
    · cases hf
def fIf (f : FT) (g h : FE) : FE := fun env M => bnd (f env M) fun b M1 => if b then g env M1 else h env M1
theorem se_if (hc : ST X ct c ft) (ha : SE X ct a fa) (hb : SE X ct b fb) : SE X ct (.IfExp c a b pos) (fIf ft fa fb) :=
  PE.imp (pe_ifExp hc ha hb) fun σ H Q ⟨ρ, M, env, r, he, d, M', hf, hq⟩ => by
    obtain ⟨x, M1, h1, hf⟩ := bnd_some hf
    refine ⟨ρ, M, env, r, he, x, M1, h1, fun ρ1 H1 e1 r1 => ?_⟩
    cases x with
    | true =>
      rw [if_pos rfl]
      exact ⟨ρ1, M1, env, r1, he.mono e1, d, M', hf, hq.later e1⟩
    | false =>
      rw [if_neg (by decide)]
      exact ⟨ρ1, M1, env, r1, he.mono e1, d, M', hf, hq.later e1⟩

/-! ### argument lists, displays -/
variable {es : List Expr} {fr : FA}
def fNil : FA := fun _ M => some ([], M)
def fCons (f : FE) (g : FA) : FA := fun env M => bnd (f env M) fun d M1 => bnd (g env M1) fun ds M2 => some (d :: ds, M2)
theorem sa_nil : SA X ct [] fNil := PA.imp pa_nil fun σ H Q ⟨ρ, M, env, r, he, d, M', hf, hq⟩ => by
  cases hf
  exact hq ρ H .refl r _ .nil
theorem sa_cons (h : SE X ct e fa) (k : SA X ct es fr) (hs : starEach (e :: es) X.env = (false, eval e X.env) :: starEach es X.env := by rfl) : SA X ct (e :: es) (fCons fa fr) :=
  PA.imp (pa_cons h k hs) fun σ H Q ⟨ρ, M, env, r, he, d, M', hf, hq⟩ => by
    obtain ⟨x, M1, h1, hf⟩ := bnd_some hf
    obtain ⟨ys, M2, h2, hf⟩ := bnd_some hf
    cases hf
    exact ⟨ρ, M, env, r, he, x, M1, h1, fun ρ1 H1 e1 r1 v dv => ⟨ρ1, M1, env, r1, he.mono e1, ys, _, h2, fun ρ2 H2 e2 r2 vs dvs => hq ρ2 H2 (e1.trans e2) r2 _ (.cons (dv.mono e2) dvs)⟩⟩
/-- *e ahead of the rest -/
def fStar (f : FE) (g : FA) : FA := fun env M => bnd (f env M) fun d M1 => match d with
  | .tup xs => bnd (g env M1) fun ds M2 => some (xs ++ ds, M2)
  | _ => none
def fTup (f : FA) : FE := fun env M => bnd (f env M) fun ds M1 => if ds.length ≤ sizeLine then some (.tup ds, M1) else none
def fLst (f : FA) : FE := fun env M => bnd (f env M) fun ds M1 => if ds.length ≤ sizeLine then some (.loc M1.length, M1 ++ [.lst ds]) else none
/-- a new tuple, locked -/
theorem layT {pins : List (Addr × Obj)} {σ : St} {H : Hp} {s : Shared} {xs : List V} {us : List Value} {tk : Nat} (I : Inv X pins σ H s) (r : Vals xs us) (hz : xs.length ≤ sizeLine) :
    Inv X pins σ (upd H s.heap.objs.size (.frz { cls := .type "tuple", data := .seq us.toArray } (.tup xs))) { s with heap := s.heap.push { cls := .type "tuple", data := .seq us.toArray }, toks := tk } :=
  I.laid (fun _ _ q => Heap.get?_push_of_some _ q) (Nat.le_refl _) ⟨Heap.get?_push_size _ rfl, hz, us, r, PyProof.Rows.IsTup.new _ _⟩
theorem pe_tupF {x1} {t : TA} (h : PA X es t) : PE X (.Tuple es x1 pos) (fun σ H Q => t σ H fun xs H1 => xs.length ≤ sizeLine ∧ ∀ p o, H1 p = none → o.dict = none → Q (.ref p) (upd H1 p (.frz o (.tup xs)))) :=
  ⟨fun pins s σ H Q I hq => wpAny_Tuple_spliced (thn (h.run pos pins s σ H _ I hq) fun us s1 ⟨xs, H1, I1, r, z, q⟩ => ⟨r.length ▸ z,
    ⟨V.ref s1.heap.objs.size, _, layT (tk := s1.toks) I1 r z, rfl, q _ _ (I1.hok.fresh (Nat.le_refl _)) rfl⟩⟩)⟩
theorem se_tup {x1} (h : SA X ct es fr) : SE X ct (.Tuple es x1 pos) (fTup fr) :=
  PE.imp (pe_tupF h) fun σ H Q ⟨ρ, M, env, r, he, d, M', hf, hq⟩ => by
    obtain ⟨ys, M1, h1, hf⟩ := bnd_some hf
    split at hf
    · rename_i hl
      cases hf
      refine ⟨ρ, M, env, r, he, ys, _, h1, fun ρ1 H1 e1 r1 vs dvs => ⟨by rw [← dvs.length]; exact hl, fun p o hp ho => ?_⟩⟩
      exact hq ρ1 _ (e1.trans (Ext.fresh hp)) (r1.tup hp _) _ (.tup (TupD.new ho) (dvs.mono (Ext.fresh hp)))
    · cases hf
theorem se_lst (h : SA X ct es fr) : SE X ct (.List es pos) (fLst fr) :=
  PE.imp (pe_lst h) fun σ H Q ⟨ρ, M, env, r, he, d, M', hf, hq⟩ => by
    obtain ⟨ys, M1, h1, hf⟩ := bnd_some hf
    split at hf
    · rename_i hl
      cases hf
      refine ⟨ρ, M, env, r, he, ys, _, h1, fun ρ1 H1 e1 r1 vs dvs => ⟨by rw [← dvs.length]; exact hl, fun p hp => ?_⟩⟩
      obtain ⟨r2, e2, h2⟩ := r1.newL hp dvs
      exact hq _ _ (e1.trans e2) r2 _ (.loc h2)
    · cases hf
/-! ### a call of a built-in -/
def fC (h : List Dv → Mem → Option (Dv × Mem)) (f : FA) : FE := fun env M => bnd (f env M) h
variable {hc : List Dv → Mem → Option (Dv × Mem)} {id T : String} {x : Str} {p : Pos}
theorem c_imp {σ : St} {H : Hp} {Q : VK} (w : tE X.K ct (fC hc fr) σ H Q) : tCB (tC X.K ct hc) (tA X.K ct fr) σ H Q := by
  obtain ⟨ρ, M, env, r, he, d, M', hf, hq⟩ := w
  obtain ⟨ys, M1, h1, hf⟩ := bnd_some hf
  exact ⟨ρ, M, env, r, he, ys, M1, h1, fun ρ1 H1 e1 r1 vs dvs => ⟨ρ1, M1, ys, r1, dvs, d, M', hf, hq.later e1⟩⟩
theorem se_callB (h : SC X ct (.builtin id) hc) (hg : Gl X x) (hm : X.mg x = none) (hv : bootBuiltins x = some (.builtin id)) (ha : SA X ct (e :: es) fr) (hn : x ≠ "__name__" := by decide) (hdb : (x == ("__debug__" : Str)) = false := by decide)
    (he : starEach (e :: es) X.env = (false, eval e X.env) :: starEach es X.env := by rfl) (hpl : (backTo pos (starEach es X.env)).any (·.1) = false := by rfl) : SE X ct (.Call (.Name x p) (e :: es) [] pos) (fC hc fr) :=
  PE.imp (pe_callB h hg hm hv ha hn hdb he hpl) fun _ _ _ w => c_imp w
theorem se_callTy (h : SC X ct (.type T) hc) (hg : Gl X x) (hm : X.mg x = none) (hv : bootBuiltins x = some (.type T)) (ha : SA X ct (e :: es) fr) (hn : x ≠ "__name__" := by decide) (hdb : (x == ("__debug__" : Str)) = false := by decide)
    (he : starEach (e :: es) X.env = (false, eval e X.env) :: starEach es X.env := by rfl) (hpl : (backTo pos (starEach es X.env)).any (·.1) = false := by rfl) : SE X ct (.Call (.Name x p) (e :: es) [] pos) (fC hc fr) :=
  PE.imp (pe_callTy h hg hm hv ha hn hdb he hpl) fun _ _ _ w => c_imp w
end
end Zl

/-! text Z3 -/
namespace Zl
open PySem L2 PySem.Spec PyProof.Rows

abbrev Rz := Option (Dv × Mem)
section
variable {X : Cx}
/-- t + u, the sum locked -/
theorem op_catF : OpR X (binaryOp .Add) (fun x y H Q => ∃ a b xs ys, x = .ref a ∧ y = .ref b ∧ SqT X.K H a xs ∧ SqT X.K H b ys ∧ xs.length + ys.length ≤ sizeLine ∧
    (xs = [] → Q (.ref b) H) ∧ (xs ≠ [] → ys = [] → Q (.ref a) H) ∧ (xs ≠ [] → ys ≠ [] → ∀ p o, H p = none → o.dict = none → Q (.ref p) (upd H p (.frz o (.tup (xs ++ ys)))))) := by
  intro pins s σ H x y v u Q I rx ry h
  obtain ⟨a, b, xs, ys, rfl, rfl, ha, hb, hz, q0, q1, q2⟩ := h
  cases rx; cases ry
  obtain ⟨us, r1, p1, _⟩ := I.tuple ha
  obtain ⟨ws, r2, p2, _⟩ := I.tuple hb
  by_cases hx : xs = []
  · subst hx
    cases r1
    exact cat_tup0 p1 p2 ⟨V.ref b, H, I, rfl, q0 rfl⟩
  · have hu : us ≠ [] := fun e => hx (by subst e; cases r1; rfl)
    refine HT.cat_tup p1 p2 hu (fun e => ?_) (fun e => ?_) ?_
    · subst e; cases r2
      exact ⟨V.ref a, H, I, rfl, q1 hx rfl⟩
    · have hy : ys ≠ [] := fun e' => e (by subst e'; cases r2; rfl)
      exact ⟨V.ref s.heap.objs.size, _, layT (tk := s.toks) I (r1.append r2) (by rw [List.length_append]; exact hz), rfl, q2 hx hy _ _ (I.hok.fresh (Nat.le_refl _)) rfl⟩
    · have e1 := r1.length
      have e2 := r2.length
      omega
/-- t * k where nothing new is made: the tuple is empty, or k is 1 -/
theorem tmul_same (l : Addr) (items : Array Value) (n : Nat) (dd : Option Addr) (sl : Array (Option Value)) (x : Int) (u : Tok) (c0 : (decide (x < -(2 ^ 63)) || decide (x ≥ 2 ^ 63)) = false) (c1 : (items.isEmpty || x == 1) = true) :
    Meets (Builtin.«tuple.__mul__» ⟨[.ref l, .int x u], []⟩) (fun _ R s => s.heap.get? l = some { cls := .type "tuple", dict := dd, data := .seq items n, slots := sl } ∧ R (.ok (.ret (Value.ref l))) s) :=
  .of_wp fun prog w A R s h => by
    obtain ⟨hp, g, d, tk, os⟩ := s
    obtain ⟨hl, h⟩ := h
    have f1 := AutoSeq1.idx_int
    wp_walk using wpAny_loadPart' hl
    refine wpAny_ite_false (decide_eq_false (by rw [c0]; exact Bool.false_ne_true)) ?_
    wp_walk using wpAny_loadPart' hl
    exact ⟨_, rfl, h⟩
/-- t * k, k not above 0: a new empty tuple -/
theorem tmul_none (l : Addr) (items : Array Value) (n : Nat) (dd : Option Addr) (sl : Array (Option Value)) (x : Int) (u : Tok) (c0 : (decide (x < -(2 ^ 63)) || decide (x ≥ 2 ^ 63)) = false) (c1 : (items.isEmpty || x == 1) = false) (c2 : (decide (x ≤ 0) || items.isEmpty) = true) :
    Meets (Builtin.«tuple.__mul__» ⟨[.ref l, .int x u], []⟩) (fun _ R s => s.heap.get? l = some { cls := .type "tuple", dict := dd, data := .seq items n, slots := sl } ∧
      R (.ok (.ret (Value.ref s.heap.objs.size))) { s with heap := s.heap.push { cls := .type "tuple", data := .seq #[] } }) :=
  .of_wp fun prog w A R s h => by
    obtain ⟨hp, g, d, tk, os⟩ := s
    obtain ⟨hl, h⟩ := h
    have f1 := AutoSeq1.idx_int
    wp_walk using wpAny_loadPart' hl
    refine wpAny_ite_false (decide_eq_false (by rw [c0]; exact Bool.false_ne_true)) ?_
    wp_walk using wpAny_loadPart' hl
    exact ⟨_, rfl, h⟩
/-- t * k, whatever k: locked where it is new -/
theorem op_repF : OpR X (binaryOp .Mult) (fun x y H Q => ∃ l k xs, x = .ref l ∧ y = .int k ∧ SqT X.K H l xs ∧ -(2 ^ 63) ≤ k ∧ k < 2 ^ 63 ∧ xs.length * k.toNat ≤ sizeLine ∧
    (xs = [] ∨ k = 1 → Q (.ref l) H) ∧ (xs ≠ [] → k ≠ 1 → ∀ p o, H p = none → o.dict = none → Q (.ref p) (upd H p (.frz o (.tup (List.replicate k.toNat xs).flatten))))) := by
  intro pins s σ H x y v u Q I rx ry h
  obtain ⟨l, k, xs, rfl, rfl, hT, h1, h2, hz, q1, q2⟩ := h
  cases rx
  obtain ⟨t, rfl⟩ := ry
  obtain ⟨its, r, ⟨⟨cls, dd, data, sl⟩, ho, hc, n, hd⟩, hs⟩ := I.tuple hT
  simp only at hc hd
  subst hc hd
  have hle : its.length = xs.length := r.length.symm
  have c0 : (decide (k < -(2 ^ 63)) || decide (k ≥ 2 ^ 63)) = false := by
    rw [decide_eq_false (by omega), decide_eq_false (by omega)]; rfl
  have road : ∀ {S : PySem.Spec}, Meets (Builtin.«tuple.__mul__» ⟨[.ref l, .int k t], []⟩) S → S X.A (wants (EP X pins σ Q) X.xe) s → wpAny (model X.prog X.w) X.A (binaryOp .Mult (.ref l) (.int k t)) (EP X pins σ Q) X.xe s := fun {S} g hS =>
    wpAny_binaryOp_repeat_ref (T := "tuple") (U := "int") (by decide) ⟨_, ho, rfl⟩ (fun s' => typeIs_int s' k t) noFill_tuple_mul F.fills_int_mul F.slot_int_rmul repeat_tuple F.slot_int_index.lookup
      (call_meets F.slot_int_rmul (typeIs_int s k t) F.entry_int_rmul (F.args_int_rmul_2 _ _) (int_rmul_tuple k t l its.toArray n dd sl)
        ⟨ho, rfl, ⟨_, ho, rfl⟩, call_meets F.slot_tuple_mul ⟨_, ho, rfl⟩ F.entry_tuple_mul (F.args_tuple_mul_2 _ _) g hS⟩)
  by_cases hx : xs = []
  · subst hx
    cases r
    exact road (tmul_same l [].toArray n dd sl k t c0 rfl) ⟨ho, V.ref l, H, I, rfl, q1 (.inl rfl)⟩
  · have hn : its.toArray.isEmpty = false := by
      cases r with
      | nil => exact absurd rfl hx
      | cons _ _ => rfl
    by_cases hk : k = 1
    · subst hk
      exact road (tmul_same l _ n dd sl 1 t c0 (by rw [hn]; rfl)) ⟨ho, V.ref l, H, I, rfl, q1 (.inr rfl)⟩
    · have c1 : (its.toArray.isEmpty || k == 1) = false := by
        rw [hn, Bool.false_or]
        exact beq_eq_false_iff_ne.mpr hk
      by_cases h0 : k ≤ 0
      · refine road (tmul_none l _ n dd sl k t c0 c1 (by rw [decide_eq_true h0]; rfl)) ⟨ho, V.ref s.heap.objs.size, _, layT (us := []) (xs := []) (tk := s.toks) I .nil (Nat.zero_le _), rfl, ?_⟩
        have e := q2 hx hk s.heap.objs.size { cls := .type "tuple", data := .seq #[] } (I.hok.fresh (Nat.le_refl _)) rfl
        rw [show k.toNat = 0 by omega] at e
        exact e
      · have hm : ((its.toArray.size : Nat) : Int) * k ≤ 16777216 := by
          have e1 : ((its.toArray.size : Nat) : Int) * k = ((xs.length * k.toNat : Nat) : Int) := by
            rw [List.size_toArray, hle, Int.natCast_mul, Int.toNat_of_nonneg (by omega)]
          rw [e1]
          have : xs.length * k.toNat ≤ 16777216 := hz
          omega
        have flen : (List.replicate k.toNat its).flatten.length ≤ sizeLine := by
          rw [lm_len_rep_flat, hle, Nat.mul_comm]; exact hz
        have c4 : Builtin.Tuple.tupleTooMany (((its.toArray.size : Nat) : Int) * k) = false := by
          unfold Builtin.Tuple.tupleTooMany
          exact decide_eq_false (by rw [sizeLine_eq]; omega)
        refine road (tuple_mulW l its.toArray n dd sl k t c0 c1 (by rw [hn, Bool.or_false]; exact decide_eq_false h0) (by omega) c4 (by rw [size_rep, List.size_toArray]; exact flen)) ⟨ho, ?_⟩
        rw [size_rep]
        refine ⟨V.ref s.heap.objs.size, _, layT (tk := s.toks) I (r.rep k.toNat) ?_, rfl, q2 hx hk _ _ (I.hok.fresh (Nat.le_refl _)) rfl⟩
        rw [lm_len_rep_flat, Nat.mul_comm]; exact hz
end
section
variable {X : Cx} {ct : Ct}
/-! ### arithmetic -/
def addD : Dv → Dv → Mem → Rz
  | .int i, .int j, M => some (.int (i + j), M)
  | .str x, .str y, M => if x.length + y.length ≤ sizeLine then some (.str (x ++ y), M) else none
  | .tup xs, .tup ys, M => if xs.length + ys.length ≤ sizeLine then some (.tup (xs ++ ys), M) else none
  | .loc m, .loc n, M => match M[m]?, M[n]? with
    | some (.lst xs), some (.lst ys) => if xs.length + ys.length ≤ sizeLine then some (.loc M.length, M ++ [.lst (xs ++ ys)]) else none
    | _, _ => none
  | _, _, _ => none
theorem so_add : SO X ct (binaryOp .Add) addD := by
  intro pins s σ H x y v u Q I rx ry h
  obtain ⟨ρ, M, d, e, r, dx, dy, z, M', hf, hq⟩ := h
  unfold addD at hf
  split at hf
  · cases hf; cases dx; cases dy
    exact op_add pins s σ H _ _ v u Q I rx ry ⟨_, _, rfl, rfl, hq ρ H .refl r _ (.int _)⟩
  · split at hf
    · rename_i hl
      cases hf; cases dx; cases dy
      exact op_add_str pins s σ H _ _ v u Q I rx ry ⟨_, _, rfl, rfl, hl, hq ρ H .refl r _ (.str _)⟩
    · cases hf
  · split at hf
    · rename_i hl
      cases hf
      cases dx with
      | tup h1 d1 =>
        cases dy with
        | tup h2 d2 =>
          refine op_catF pins s σ H _ _ v u Q I rx ry ⟨_, _, _, _, rfl, rfl, h1.sq, h2.sq, by rw [← d1.length, ← d2.length]; exact hl, fun e1 => ?_, fun n1 e2 => ?_, fun n1 n2 p o hp ho => ?_⟩
          · subst e1
            cases d1
            exact hq ρ H .refl r _ (.tup h2 d2)
          · subst e2
            cases d2
            exact hq ρ H .refl r _ (.tup h1 (by rw [List.append_nil]; exact d1))
          · exact hq ρ _ (Ext.fresh hp) (r.tup hp _) _ (.tup (TupD.new ho) ((d1.append d2).mono (Ext.fresh hp)))
    · cases hf
  · split at hf
    · rename_i m n _ _ hm hn
      split at hf
      · rename_i hl
        cases hf
        obtain ⟨a, vs, rfl, a1, a2, a3⟩ := r.lst hm dx
        obtain ⟨b, ws, rfl, b1, b2, b3⟩ := r.lst hn dy
        refine op_cat pins s σ H _ _ v u Q I rx ry ⟨_, _, _, _, rfl, rfl, a2, b2, by rw [← a3.length, ← b3.length]; exact hl, fun p hp => ?_⟩
        obtain ⟨r2, e2, h2⟩ := r.newL hp (a3.append b3)
        exact hq _ _ e2 r2 _ (.loc h2)
      · cases hf
    · cases hf
  · cases hf
def subD : Dv → Dv → Mem → Rz
  | .int i, .int j, M => some (.int (i - j), M)
  | _, _, _ => none
theorem so_sub : SO X ct (binaryOp .Sub) subD := by
  intro pins s σ H x y v u Q I rx ry h
  obtain ⟨ρ, M, d, e, r, dx, dy, z, M', hf, hq⟩ := h
  unfold subD at hf
  split at hf
  · cases hf; cases dx; cases dy
    exact op_sub pins s σ H _ _ v u Q I rx ry ⟨_, _, rfl, rfl, hq ρ H .refl r _ (.int _)⟩
  · cases hf
theorem rep_nil : ∀ n : Nat, (List.replicate n ([] : List Dv)).flatten = []
  | 0 => rfl
  | n + 1 => by rw [List.replicate_succ, List.flatten_cons, rep_nil n]; rfl
theorem rep_one (xs : List Dv) : (List.replicate (1 : Int).toNat xs).flatten = xs := by simp
def mulD : Dv → Dv → Mem → Rz
  | .int i, .int j, M => if (-(2 ^ 64) < i ∧ i < 2 ^ 64) ∨ (-(2 ^ 64) < j ∧ j < 2 ^ 64) then some (.int (i * j), M) else none
  | .loc n, .int k, M => match M[n]? with
    | some (.lst xs) => if -(2 ^ 63) ≤ k ∧ k < 2 ^ 63 ∧ xs.length * k.toNat ≤ sizeLine then some (.loc M.length, M ++ [.lst (List.replicate k.toNat xs).flatten]) else none
    | _ => none
  | .tup xs, .int k, M => if -(2 ^ 63) ≤ k ∧ k < 2 ^ 63 ∧ xs.length * k.toNat ≤ sizeLine then some (.tup (List.replicate k.toNat xs).flatten, M) else none
  | _, _, _ => none
theorem so_mul : SO X ct (binaryOp .Mult) mulD := by
  intro pins s σ H x y v u Q I rx ry h
  obtain ⟨ρ, M, d, e, r, dx, dy, z, M', hf, hq⟩ := h
  unfold mulD at hf
  split at hf
  · split at hf
    · rename_i hl
      cases hf; cases dx; cases dy
      exact op_mul pins s σ H _ _ v u Q I rx ry ⟨_, _, rfl, rfl, hl, hq ρ H .refl r _ (.int _)⟩
    · cases hf
  · split at hf
    · rename_i n k _ _ hm
      split at hf
      · rename_i hl
        cases hf
        obtain ⟨a, vs, rfl, a1, a2, a3⟩ := r.lst hm dx
        cases dy
        refine op_rep pins s σ H _ _ v u Q I rx ry ⟨_, _, _, rfl, rfl, a2, hl.1, hl.2.1, by rw [← a3.length]; exact hl.2.2, fun p hp => ?_⟩
        obtain ⟨r2, e2, h2⟩ := r.newL hp (a3.rep _)
        exact hq _ _ e2 r2 _ (.loc h2)
      · cases hf
    · cases hf
  · split at hf
    · rename_i xs k _ hl
      cases hf
      cases dy
      cases dx with
      | tup h1 d1 =>
        refine op_repF pins s σ H _ _ v u Q I rx ry ⟨_, _, _, rfl, rfl, h1.sq, hl.1, hl.2.1, by rw [← d1.length]; exact hl.2.2, fun hs => ?_, fun _ _ p o hp ho => ?_⟩
        · refine hq ρ H .refl r _ (.tup h1 ?_)
          rcases hs with e | e
          · subst e; cases d1
            rw [rep_nil]; exact .nil
          · subst e
            rw [rep_one]; exact d1
        · exact hq ρ _ (Ext.fresh hp) (r.tup hp _) _ (.tup (TupD.new ho) ((d1.rep _).mono (Ext.fresh hp)))
    · cases hf
  · cases hf
def fdivD : Dv → Dv → Mem → Rz
  | .int i, .int j, M => if 0 < j ∧ j < 1073741824 then some (.int (i / j), M) else none
  | _, _, _ => none
theorem so_fdiv : SO X ct (binaryOp .FloorDiv) fdivD := by
  intro pins s σ H x y v u Q I rx ry h
  obtain ⟨ρ, M, d, e, r, dx, dy, z, M', hf, hq⟩ := h
  unfold fdivD at hf
  split at hf
  · split at hf
    · rename_i hl
      cases hf; cases dx; cases dy
      exact op_fdiv pins s σ H _ _ v u Q I rx ry ⟨_, _, rfl, rfl, hl, hq ρ H .refl r _ (.int _)⟩
    · cases hf
  · cases hf
def modD : Dv → Dv → Mem → Rz
  | .int i, .int j, M => if 0 < j then some (.int (i % j), M) else none
  | _, _, _ => none
theorem so_mod : SO X ct (binaryOp .Mod) modD := by
  intro pins s σ H x y v u Q I rx ry h
  obtain ⟨ρ, M, d, e, r, dx, dy, z, M', hf, hq⟩ := h
  unfold modD at hf
  split at hf
  · split at hf
    · rename_i hl
      cases hf; cases dx; cases dy
      exact op_mod pins s σ H _ _ v u Q I rx ry ⟨_, _, rfl, rfl, hl, hq ρ H .refl r _ (.int _)⟩
    · cases hf
  · cases hf
def powD : Dv → Dv → Mem → Rz
  | .int i, .int j, M => if 0 ≤ j ∧ j ≤ 1000 ∧ i.natAbs < 2 ^ 64 then some (.int (i ^ j.toNat), M) else none
  | _, _, _ => none
theorem so_pow : SO X ct (binaryOp .Pow) powD := by
  intro pins s σ H x y v u Q I rx ry h
  obtain ⟨ρ, M, d, e, r, dx, dy, z, M', hf, hq⟩ := h
  unfold powD at hf
  split at hf
  · split at hf
    · rename_i hl
      cases hf; cases dx; cases dy
      exact op_pow pins s σ H _ _ v u Q I rx ry ⟨_, _, rfl, rfl, ⟨hl.1, by omega, hl.2.2⟩, hq ρ H .refl r _ (.int _)⟩
    · cases hf
  · cases hf
def negD : Dv → Mem → Rz
  | .int i, M => some (.int (-i), M)
  | _, _ => none
theorem su_neg : SU X ct (unaryOp .USub) negD := by
  intro pins s σ H x v Q I rx h
  obtain ⟨ρ, M, d, r, dx, z, M', hf, hq⟩ := h
  unfold negD at hf
  split at hf
  · cases hf; cases dx
    exact un_neg pins s σ H _ v Q I rx ⟨_, rfl, hq ρ H .refl r _ (.int _)⟩
  · cases hf

/-! ### the order of ints -/
def cmpI (p : Int → Int → Bool) : Dv → Dv → Mem → Rz
  | .int i, .int j, M => some (.bl (p i j), M)
  | _, _, _ => none
theorem so_cmpI {op : CmpOp} {p : Int → Int → Bool} (h0 : OpR X (compareOp op) (rI0 fun i j => .bl (p i j))) : SO X ct (compareOp op) (cmpI p) := by
  intro pins s σ H x y v u Q I rx ry h
  obtain ⟨ρ, M, d, e, r, dx, dy, z, M', hf, hq⟩ := h
  unfold cmpI at hf
  split at hf
  · cases hf; cases dx; cases dy
    exact h0 pins s σ H _ _ v u Q I rx ry ⟨_, _, rfl, rfl, hq ρ H .refl r _ (.bl _)⟩
  · cases hf
abbrev ltD := cmpI fun i j => decide (i < j)
abbrev leD := cmpI fun i j => decide (i ≤ j)
abbrev gtD := cmpI fun i j => decide (j < i)
abbrev geD := cmpI fun i j => decide (j ≤ i)
theorem so_lt : SO X ct (compareOp .Lt) ltD := so_cmpI op_lt
theorem so_le : SO X ct (compareOp .LtE) leD := so_cmpI op_le
theorem so_gt : SO X ct (compareOp .Gt) gtD := so_cmpI op_gt
theorem so_ge : SO X ct (compareOp .GtE) geD := so_cmpI op_ge

/-! ### data as a whole: ==, repr -/
def rdL (f : Dv → Option PyData) : List Dv → Option (List PyData)
  | [] => some []
  | x :: xs => match f x with
    | none => none
    | some p => match rdL f xs with
      | none => none
      | some ps => some (p :: ps)
def rd (M : Mem) : Nat → Dv → Option PyData
  | _, .non => some .none
  | _, .bl b => some (.bool b)
  | _, .int i => some (.int i)
  | _, .str x => some (.str x)
  | _, .ty _ => none
  | _, .pr _ => none
  | 0, _ => none
  | n + 1, .tup xs => match rdL (rd M n) xs with
    | some ps => some (.tuple ps)
    | none => none
  | n + 1, .rol xs => match rdL (rd M n) xs with
    | some ps => some (.list ps)
    | none => none
  | n + 1, .loc k => match M[k]? with
    | some (.lst xs) => match rdL (rd M n) xs with
      | some ps => some (.list ps)
      | none => none
    | _ => none
section
variable {K : Frg} {ρ : List Addr} {M : Mem} {H : Hp}
theorem rdL_dp {f : Dv → Option PyData} (hf : ∀ d v p, DV K ρ H d v → f d = some p → Dp K H v p) : ∀ {xs : List Dv} {vs : List V} {ps : List PyData}, DVs K ρ H xs vs → rdL f xs = some ps → DpAll K H vs ps
  | _, _, _, .nil, e => by cases e; exact .nil
  | _, _, _, .cons h t, e => by
    unfold rdL at e
    split at e
    · cases e
    · rename_i p hp
      split at e
      · cases e
      · rename_i qs hq
        cases e
        exact .cons (hf _ _ _ h hp) (rdL_dp hf t hq)
theorem rd_dp (r : Rl K ct ρ M H) : ∀ (n : Nat) {d : Dv} {v : V} {p : PyData}, DV K ρ H d v → rd M n d = some p → Dp K H v p
  | _, .non, _, _, h, e => by cases h; simp [rd] at e; subst e; exact .non
  | _, .bl b, _, _, h, e => by cases h; simp [rd] at e; subst e; exact .bl b
  | _, .int i, _, _, h, e => by cases h; simp [rd] at e; subst e; exact .int i
  | _, .str x, _, _, h, e => by cases h; simp [rd] at e; subst e; exact .str x
  | _, .ty _, _, _, h, e => by simp [rd] at e
  | _, .pr _, _, _, h, e => by simp [rd] at e
  | 0, .tup _, _, _, _, e => by simp [rd] at e
  | 0, .rol _, _, _, _, e => by simp [rd] at e
  | 0, .loc _, _, _, _, e => by simp [rd] at e
  | n + 1, .tup xs, _, _, h, e => by
    unfold rd at e
    split at e
    · rename_i ps hp
      cases e
      cases h with
      | tup hs hd => exact .tup hs.sq (rdL_dp (fun d v p h1 h2 => rd_dp r n h1 h2) hd hp)
    · cases e
  | n + 1, .rol xs, _, _, h, e => by
    unfold rd at e
    split at e
    · rename_i ps hp
      cases e
      cases h with
      | rol hs hd => exact .lst hs.sq (rdL_dp (fun d v p h1 h2 => rd_dp r n h1 h2) hd hp)
    · cases e
  | n + 1, .loc k, _, _, h, e => by
    unfold rd at e
    split at e
    · rename_i xs hm
      split at e
      · rename_i ps hp
        cases e
        obtain ⟨a, vs, rfl, a1, a2, a3⟩ := r.lst hm h
        exact .lst (SqL.of a2) (rdL_dp (fun d v p h1 h2 => rd_dp r n h1 h2) a3 hp)
      · cases e
    · cases e
end
def deep : Nat := 30
def eqD (neg : Bool) : Dv → Dv → Mem → Rz
  | .int i, .int j, M => some (.bl (xor neg (i == j)), M)
  | .str x, .str y, M => some (.bl (xor neg (x == y)), M)
  | x, y, M => match rd M deep x, rd M deep y with
    | some p, some q => if SeqAt.shaped p = true ∧ SeqAt.shaped q = true then some (.bl (xor neg (PyData.eqv p q)), M) else none
    | _, _ => none
theorem so_eq (hu : X.A.units + 64 < cLine) : SO X ct (compareOp .Eq) (eqD false) := by
  intro pins s σ H x y v u Q I rx ry h
  obtain ⟨ρ, M, d, e, r, dx, dy, z, M', hf, hq⟩ := h
  unfold eqD at hf
  split at hf
  · cases hf; cases dx; cases dy
    refine op_eq pins s σ H _ _ v u Q I rx ry ⟨rfl, ?_⟩
    rw [dec_int]
    exact hq ρ H .refl r _ (by rw [Bool.false_xor]; exact .bl _)
  · cases hf; cases dx; cases dy
    refine op_eq pins s σ H _ _ v u Q I rx ry ⟨rfl, ?_⟩
    rw [dec_str]
    exact hq ρ H .refl r _ (by rw [Bool.false_xor]; exact .bl _)
  · split at hf
    · rename_i p q hp hq'
      split at hf
      · rename_i hs
        cases hf
        exact op_eqD hu pins s σ H _ _ v u Q I rx ry ⟨p, q, rd_dp r _ dx hp, rd_dp r _ dy hq', hs.1, hs.2, hq ρ H .refl r _ (by rw [Bool.false_xor]; exact .bl _)⟩
      · cases hf
    · cases hf
theorem so_ne (hu : X.A.units + 64 < cLine) : SO X ct (compareOp .NotEq) (eqD true) := by
  intro pins s σ H x y v u Q I rx ry h
  obtain ⟨ρ, M, d, e, r, dx, dy, z, M', hf, hq⟩ := h
  unfold eqD at hf
  split at hf
  · cases hf; cases dx; cases dy
    refine op_ne pins s σ H _ _ v u Q I rx ry ⟨rfl, ?_⟩
    rw [dec_int]
    exact hq ρ H .refl r _ (by rw [Bool.true_xor]; exact .bl _)
  · cases hf; cases dx; cases dy
    refine op_ne pins s σ H _ _ v u Q I rx ry ⟨rfl, ?_⟩
    rw [dec_str]
    exact hq ρ H .refl r _ (by rw [Bool.true_xor]; exact .bl _)
  · split at hf
    · rename_i p q hp hq'
      split at hf
      · rename_i hs
        cases hf
        exact op_neD hu pins s σ H _ _ v u Q I rx ry ⟨p, q, rd_dp r _ dx hp, rd_dp r _ dy hq', hs.1, hs.2, hq ρ H .refl r _ (by rw [Bool.true_xor]; exact .bl _)⟩
      · cases hf
    · cases hf
/-! ### is None -/
def isNon : Dv → Bool
  | .non => true
  | _ => false
theorem isNon_of {K : Frg} {ρ : List Addr} {H : Hp} {d : Dv} {v : V} (h : DV K ρ H d v) : decide (v = .non) = isNon d := by cases h <;> rfl
def isD (neg : Bool) : Dv → Dv → Mem → Rz
  | d, .non, M => some (.bl (xor neg (isNon d)), M)
  | _, _, _ => none
theorem so_is : SO X ct (compareOp .Is) (isD false) := by
  intro pins s σ H x y v u Q I rx ry h
  obtain ⟨ρ, M, d, e, r, dx, dy, z, M', hf, hq⟩ := h
  unfold isD at hf
  split at hf
  · cases hf; cases dy
    exact op_isN pins s σ H _ _ v u Q I rx ry ⟨rfl, hq ρ H .refl r _ (by rw [isNon_of dx, Bool.false_xor]; exact .bl _)⟩
  · cases hf
theorem so_isnot : SO X ct (compareOp .IsNot) (isD true) := by
  intro pins s σ H x y v u Q I rx ry h
  obtain ⟨ρ, M, d, e, r, dx, dy, z, M', hf, hq⟩ := h
  unfold isD at hf
  split at hf
  · cases hf; cases dy
    exact op_notN pins s σ H _ _ v u Q I rx ry ⟨rfl, hq ρ H .refl r _ (by rw [isNon_of dx, Bool.true_xor]; exact .bl _)⟩
  · cases hf
end
end Zl

/-! text Z4 -/
namespace Zl
open PySem L2 PySem.Spec PyProof.Rows

/-! ### flat values -/
def flatD : Dv → Bool
  | .non => true
  | .bl _ => true
  | .int _ => true
  | .str _ => true
  | _ => false
def eqF : Dv → Dv → Bool
  | .non, .non => true
  | .bl a, .bl b => a == b
  | .bl a, .int b => (if a then 1 else 0) == b
  | .int a, .bl b => a == (if b then 1 else 0)
  | .int a, .int b => a == b
  | .str a, .str b => a == b
  | _, _ => false
def idxB (p : Dv → Bool) : List Dv → Option Nat
  | [] => none
  | y :: ys => if p y then some 0 else match idxB p ys with
    | some n => some (n + 1)
    | none => none
theorem idxB_some {p : Dv → Bool} : ∀ {ys : List Dv} {j : Nat}, idxB p ys = some j → (∃ z, ys[j]? = some z ∧ p z = true) ∧ ∀ (m : Nat) z, m < j → ys[m]? = some z → p z = false
  | [], j, h => by cases h
  | y :: ys, j, h => by
    unfold idxB at h
    split at h
    · rename_i hp
      cases h
      exact ⟨⟨y, rfl, hp⟩, fun m z hm => absurd hm (Nat.not_lt_zero m)⟩
    · rename_i hp
      split at h
      · rename_i n hn
        cases h
        obtain ⟨⟨z, h1, h2⟩, h3⟩ := idxB_some hn
        refine ⟨⟨z, by simpa using h1, h2⟩, fun m w hm hw => ?_⟩
        cases m with
        | zero => simp at hw; subst hw; simpa using hp
        | succ m => exact h3 m w (by omega) (by simpa using hw)
      · cases h
section
variable {K : Frg} {ρ : List Addr} {H : Hp}
theorem flat_of {d : Dv} {v : V} (h : DV K ρ H d v) : flatV v = flatD d := by cases h <;> rfl
theorem flats_of : ∀ {ds : List Dv} {vs : List V}, DVs K ρ H ds vs → vs.all flatV = ds.all flatD
  | _, _, .nil => rfl
  | _, _, .cons h t => by rw [List.all_cons, List.all_cons, flat_of h, flats_of t]
theorem eq_of {d e : Dv} {v u : V} (h : DV K ρ H d v) (h' : DV K ρ H e u) (f : flatD d = true) (f' : flatD e = true) : eqV v u = eqF d e := by
  cases h <;> cases h' <;> first | rfl | (exact absurd f (by decide)) | (exact absurd f' (by decide))
theorem any_of {x : Dv} {u : V} (hx : DV K ρ H x u) (fx : flatD x = true) : ∀ {ds : List Dv} {vs : List V}, DVs K ρ H ds vs → ds.all flatD = true → (vs.any fun y => eqV y u) = ds.any fun y => eqF y x
  | _, _, .nil, _ => rfl
  | _, _, .cons h t, f => by
    rw [List.all_cons, Bool.and_eq_true] at f
    rw [List.any_cons, List.any_cons, eq_of h hx f.1 fx, any_of hx fx t f.2]
theorem DVs.at_ {ds : List Dv} {vs : List V} {i : Int} {d : Dv} (h : DVs K ρ H ds vs) (e : atI ds i = some d) : ∃ v, atI vs i = some v ∧ DV K ρ H d v := by
  unfold atI at e ⊢
  rw [← h.length]
  cases q : ixN ds.length i with
  | none => rw [q] at e; cases e
  | some j =>
    rw [q] at e
    exact h.get e
theorem DVs.back : ∀ {ds : List Dv} {vs : List V} {i : Nat} {v : V}, DVs K ρ H ds vs → vs[i]? = some v → ∃ d, ds[i]? = some d ∧ DV K ρ H d v
  | _, _, _, _, .nil, e => by simp at e
  | _, _, 0, _, .cons h _, e => by simp at e; subst e; exact ⟨_, rfl, h⟩
  | _, _, i + 1, v, .cons _ r, e => by
    obtain ⟨u, h1, h2⟩ := DVs.back (i := i) (v := v) r (by simpa using e)
    exact ⟨u, by simpa using h1, h2⟩
end

section
variable {X : Cx} {ct : Ct} {e a b : Expr} {es : List Expr} {pos p : Pos} {fa fb : FE} {fr : FA}
/-! ### in -/
def inD (neg : Bool) : Dv → Dv → Mem → Rz
  | x, .tup ys, M => if flatD x && ys.all flatD then some (.bl (xor neg (ys.any fun y => eqF y x)), M) else none
  | x, .loc n, M => match M[n]? with
    | some (.lst ys) => if flatD x && ys.all flatD then some (.bl (xor neg (ys.any fun y => eqF y x)), M) else
      match rd M deep x, rdL (rd M deep) ys with
      | some p, some ps => if SeqAt.shaped p = true ∧ SeqAt.shaped (.list ps) = true then some (.bl (xor neg (ps.any fun z => PyData.eqv z p)), M) else none
      | _, _ => none
    | _ => none
  | .str x, .str y, M => match x.cps.toList with
    | [c] => some (.bl (xor neg (decide (c ∈ y.cps.toList))), M)
    | _ => none
  | _, _, _ => none
theorem one_sign {x : Str} {c : Nat} (h : x.cps.toList = [c]) : x = ⟨#[c]⟩ := by
  obtain ⟨a⟩ := x
  have : a = #[c] := by
    apply Array.toList_inj.mp
    simpa using h
  rw [this]
theorem so_in (hu : X.A.units + 65 < cLine) : SO X ct (compareOp .In) (inD false) := by
  intro pins s σ H x y v u Q I rx ry h
  obtain ⟨ρ, M, d, e, r, dx, dy, z, M', hf, hq⟩ := h
  unfold inD at hf
  split at hf
  · split at hf
    · rename_i hl
      rw [Bool.and_eq_true] at hl
      cases hf
      cases dy with
      | tup hs hd =>
        refine op_in_seq pins s σ H _ _ v u Q I rx ry ⟨_, _, rfl, .inr hs.sq, by rw [flat_of dx]; exact hl.1, by rw [flats_of hd]; exact hl.2, ?_⟩
        rw [if_neg (by decide)]
        refine hq ρ H .refl r _ ?_
        rw [Bool.false_xor]
        unfold inV
        rw [any_of dx hl.1 hd hl.2]
        exact .bl _
    · cases hf
  · split at hf
    · rename_i n M0 _ _ ys hm
      obtain ⟨a, vs, rfl, h1, h2, h3⟩ := r.lst hm dy
      split at hf
      · rename_i hl
        rw [Bool.and_eq_true] at hl
        cases hf
        refine op_in_seq pins s σ H _ _ v u Q I rx ry ⟨_, _, rfl, .inl (SqL.of h2), by rw [flat_of dx]; exact hl.1, by rw [flats_of h3]; exact hl.2, ?_⟩
        rw [if_neg (by decide)]
        refine hq ρ H .refl r _ ?_
        rw [Bool.false_xor]
        unfold inV
        rw [any_of dx hl.1 h3 hl.2]
        exact .bl _
      · split at hf
        · rename_i p ps hp hps
          split at hf
          · rename_i hs
            cases hf
            refine op_inD hu pins s σ H _ _ v u Q I rx ry ⟨p, ps, rd_dp r _ dx hp, .lst (SqL.of h2) (rdL_dp (fun d v p h1 h2 => rd_dp r _ h1 h2) h3 hps), hs.1, hs.2, ?_⟩
            exact hq ρ H .refl r _ (by rw [Bool.false_xor]; exact .bl _)
          · cases hf
        · cases hf
    · cases hf
  · split at hf
    · rename_i c hc
      cases hf; cases dx; cases dy
      exact op_in_sign pins s σ H _ _ v u Q I rx ry ⟨c, _, by rw [one_sign hc], rfl, hq ρ H .refl r _ (by rw [Bool.false_xor]; exact .bl _)⟩
    · cases hf
  · cases hf
theorem so_notin (hu : X.A.units + 65 < cLine) : SO X ct (compareOp .NotIn) (inD true) := by
  intro pins s σ H x y v u Q I rx ry h
  obtain ⟨ρ, M, d, e, r, dx, dy, z, M', hf, hq⟩ := h
  unfold inD at hf
  split at hf
  · split at hf
    · rename_i hl
      rw [Bool.and_eq_true] at hl
      cases hf
      cases dy with
      | tup hs hd =>
        refine op_notIn_seq pins s σ H _ _ v u Q I rx ry ⟨_, _, rfl, .inr hs.sq, by rw [flat_of dx]; exact hl.1, by rw [flats_of hd]; exact hl.2, ?_⟩
        rw [if_pos rfl]
        refine hq ρ H .refl r _ ?_
        rw [Bool.true_xor]
        unfold inV
        rw [any_of dx hl.1 hd hl.2]
        exact .bl _
    · cases hf
  · split at hf
    · rename_i n M0 _ _ ys hm
      obtain ⟨a, vs, rfl, h1, h2, h3⟩ := r.lst hm dy
      split at hf
      · rename_i hl
        rw [Bool.and_eq_true] at hl
        cases hf
        refine op_notIn_seq pins s σ H _ _ v u Q I rx ry ⟨_, _, rfl, .inl (SqL.of h2), by rw [flat_of dx]; exact hl.1, by rw [flats_of h3]; exact hl.2, ?_⟩
        rw [if_pos rfl]
        refine hq ρ H .refl r _ ?_
        rw [Bool.true_xor]
        unfold inV
        rw [any_of dx hl.1 h3 hl.2]
        exact .bl _
      · split at hf
        · rename_i p ps hp hps
          split at hf
          · rename_i hs
            cases hf
            refine op_notInD hu pins s σ H _ _ v u Q I rx ry ⟨p, ps, rd_dp r _ dx hp, .lst (SqL.of h2) (rdL_dp (fun d v p h1 h2 => rd_dp r _ h1 h2) h3 hps), hs.1, hs.2, ?_⟩
            exact hq ρ H .refl r _ (by rw [Bool.true_xor]; exact .bl _)
          · cases hf
        · cases hf
    · cases hf
  · split at hf
    · rename_i c hc
      cases hf; cases dx; cases dy
      exact op_notIn_sign pins s σ H _ _ v u Q I rx ry ⟨c, _, by rw [one_sign hc], rfl, hq ρ H .refl r _ (by rw [Bool.true_xor]; exact .bl _)⟩
    · cases hf
  · cases hf
/-! ### subscripts -/
def ixD : Dv → Dv → Mem → Rz
  | .tup xs, .int i, M => match atI xs i with
    | some d => some (d, M)
    | none => none
  | .pr xs, .int i, M => match atI xs i with
    | some d => some (d, M)
    | none => none
  | .rol xs, .int i, M => match atI xs i with
    | some d => some (d, M)
    | none => none
  | .loc n, .int i, M => match M[n]? with
    | some (.lst xs) => match atI xs i with
      | some d => some (d, M)
      | none => none
    | _ => none
  | .str x, .int i, M => if x.length ≤ sizeLine then match atI x.cps.toList i with
      | some c => some (.str ⟨#[c]⟩, M)
      | none => none
    else none
  | _, _, _ => none
theorem sx_seq : IxR X (tO X.K ct ixD) := by
  intro value slice pins s σ H x y v u Q I rx ry h hsub
  obtain ⟨ρ, M, d, e, r, dx, dy, z, M', hf, hq⟩ := h
  unfold ixD at hf
  split at hf
  · split at hf
    · rename_i d0 hd0
      cases hf; cases dy
      cases dx with
      | tup hs hd =>
        obtain ⟨w, h1, h2⟩ := hd.at_ hd0
        exact ix_seq value slice pins s σ H _ _ v u Q I rx ry (.inr (.inl ⟨_, _, _, w, rfl, rfl, hs.sq, h1, hq ρ H .refl r _ h2⟩)) hsub
    · cases hf
  · split at hf
    · rename_i d0 hd0
      cases hf; cases dy
      cases dx with
      | pr hs hd =>
        obtain ⟨w, h1, h2⟩ := hd.at_ hd0
        exact ix_seq value slice pins s σ H _ _ v u Q I rx ry (.inr (.inl ⟨_, _, _, w, rfl, rfl, hs, h1, hq ρ H .refl r _ h2⟩)) hsub
    · cases hf
  · split at hf
    · rename_i d0 hd0
      cases hf; cases dy
      cases dx with
      | rol hs hd =>
        obtain ⟨w, h1, h2⟩ := hd.at_ hd0
        exact ix_seq value slice pins s σ H _ _ v u Q I rx ry (.inl ⟨_, _, _, w, rfl, rfl, hs.sq, h1, hq ρ H .refl r _ h2⟩) hsub
    · cases hf
  · split at hf
    · rename_i hm
      split at hf
      · rename_i d0 hd0
        cases hf; cases dy
        obtain ⟨a, vs, rfl, a1, a2, a3⟩ := r.lst hm dx
        obtain ⟨w, h1, h2⟩ := a3.at_ hd0
        exact ix_seq value slice pins s σ H _ _ v u Q I rx ry (.inl ⟨_, _, _, w, rfl, rfl, SqL.of a2, h1, hq ρ H .refl r _ h2⟩) hsub
      · cases hf
    · cases hf
  · split at hf
    · rename_i hl
      split at hf
      · rename_i c hc
        cases hf; cases dx; cases dy
        exact ix_seq value slice pins s σ H _ _ v u Q I rx ry (.inr (.inr ⟨_, _, c, rfl, rfl, hl, hc, hq ρ H .refl r _ (.str _)⟩)) hsub
      · cases hf
    · cases hf
  · cases hf
theorem se_ix (ha : SE X ct a fa) (hb : SE X ct b fb) (hs : PlainIx b := by intro _ _; rfl) : SE X ct (.Subscript a b pos) (fO ixD fa fb) :=
  PE.imp (pe_ix sx_seq ha hb hs) fun _ _ _ w => op_imp w
/-! ### slices -/
abbrev FO := En → Mem → Option (Option Int × Mem)
def tPo (K : Frg) (ct : Ct) (f : FO) : TO := fun σ H Q => ∃ ρ M env, Rl K ct ρ M H ∧ EnOk K ρ H env σ ∧ ∃ o M', f env M = some (o, M') ∧ Aft K ct ρ H M' fun _ H' => Q o H'
abbrev SPo (X : Cx) (ct : Ct) (e : Option Expr) (f : FO) : Prop := PO X e (tPo X.K ct f)
theorem PO.imp {e : Option Expr} {t t' : TO} (h : PO X e t) (k : ∀ σ H Q, t' σ H Q → t σ H Q) : PO X e t' := ⟨fun pins s σ H Q I w => h.run pins s σ H Q I (k σ H Q w)⟩
def fNoP : FO := fun _ M => some (none, M)
def fP (f : FE) : FO := fun env M => bnd (f env M) fun d M1 => match d with
  | .int i => some (some i, M1)
  | _ => none
theorem so_none : SPo X ct none fNoP := PO.imp po_none fun σ H Q ⟨ρ, M, env, r, he, o, M', hf, hq⟩ => by
  cases hf
  exact hq ρ H .refl r
theorem so_some (h : SE X ct e fa) : SPo X ct (some e) (fP fa) := PO.imp (po_some h) fun σ H Q ⟨ρ, M, env, r, he, o, M', hf, hq⟩ => by
  obtain ⟨x, M1, h1, hf⟩ := bnd_some hf
  split at hf
  · cases hf
    exact ⟨ρ, M, env, r, he, _, _, h1, fun ρ1 H1 e1 r1 v dv => by cases dv; exact ⟨_, rfl, hq ρ1 H1 e1 r1⟩⟩
  · cases hf
/-- the part from lo to hi -/
def cutD (xs : List Dv) (lo hi : Option Int) : List Dv := (xs.drop (HT.sIx xs.length 0 lo)).take (HT.sIx xs.length xs.length hi - HT.sIx xs.length 0 lo)
theorem DVs.cut {K : Frg} {ρ : List Addr} {H : Hp} {ds : List Dv} {vs : List V} (h : DVs K ρ H ds vs) (lo hi : Option Int) : DVs K ρ H (cutD ds lo hi) (cutV vs lo hi) := by
  unfold cutD cutV
  rw [h.length]
  exact (h.drop _).take _
def slD (x : Dv) (lo hi : Option Int) (M : Mem) : Rz :=
  match x with
  | .tup xs => some (.tup (cutD xs lo hi), M)
  | .rol xs => some (.loc M.length, M ++ [.lst (cutD xs lo hi)])
  | .loc n => match M[n]? with
    | some (.lst xs) => some (.loc M.length, M ++ [.lst (cutD xs lo hi)])
    | _ => none
  | .str z => if z.length ≤ sizeLine then some (.str (cutS z lo hi), M) else none
  | _ => none
def tSlz (K : Frg) (ct : Ct) : V → Option Int → Option Int → Hp → VK → Prop := fun x lo hi H Q => ∃ ρ M d, Rl K ct ρ M H ∧ DV K ρ H d x ∧ ∃ z M', slD d lo hi M = some (z, M') ∧ Aft K ct ρ H M' fun ρ' H' => ∀ v, DV K ρ' H' z v → Q v H'
/-- t[lo:hi] of a tuple, locked where it is new -/
theorem sl_tupF : SlR X (fun x lo hi H Q => ∃ a xs, x = .ref a ∧ SqT X.K H a xs ∧
    (HT.sIx xs.length 0 lo = 0 ∧ HT.sIx xs.length xs.length hi = xs.length → Q (.ref a) H) ∧ (¬ (HT.sIx xs.length 0 lo = 0 ∧ HT.sIx xs.length xs.length hi = xs.length) → ∀ p o, H p = none → o.dict = none → Q (.ref p) (upd H p (.frz o (.tup (cutV xs lo hi)))))) := by
  intro pins s σ H x v vl vu lo hi sl Q I rx hs pl pu h
  obtain ⟨a, xs, rfl, hx, q1, q2⟩ := h
  cases rx
  obtain ⟨us, r, ht, hz⟩ := I.tuple hx
  have hlen : us.toArray.size = xs.length := by rw [List.size_toArray, r.length]
  refine ⟨"tuple", _, PyProof.Rows.slot_tuple_getitem.lookup, ht.typeIs, ?_⟩
  by_cases hw : HT.sIx xs.length 0 lo = 0 ∧ HT.sIx xs.length xs.length hi = xs.length
  · exact getItem_tuple_whole ht hs pl pu (by rw [hlen]; exact hw) ⟨V.ref a, H, I, rfl, q1 hw⟩
  · refine HT.getItem_tuple_cut ht hs pl pu (by rw [hlen]; exact hw) ?_ ?_
    · rw [hlen]
      exact ⟨V.ref s.heap.objs.size, _, layT (tk := s.toks) I ((r.drop _).take _) (Nat.le_trans (cutV_length xs lo hi) hz), rfl, q2 hw _ _ (I.hok.fresh (Nat.le_refl _)) rfl⟩
    · rw [hlen]; exact hz
theorem cut_whole {xs : List Dv} {lo hi : Option Int} (h : HT.sIx xs.length 0 lo = 0 ∧ HT.sIx xs.length xs.length hi = xs.length) : cutD xs lo hi = xs := by
  unfold cutD
  rw [h.1, h.2, List.drop_zero, Nat.sub_zero, List.take_length]
theorem sl_all : SlR X (tSlz X.K ct) := by
  intro pins s σ H x v vl vu lo hi sl Q I rx hs pl pu h
  obtain ⟨ρ, M, d, r, dx, z, M', hf, hq⟩ := h
  unfold slD at hf
  split at hf
  · cases hf
    cases dx with
    | tup h1 d1 =>
      refine sl_tupF pins s σ H _ v vl vu lo hi sl Q I rx hs pl pu ⟨_, _, rfl, h1.sq, fun hw => ?_, fun _ p o hp ho => ?_⟩
      · rw [← d1.length] at hw
        exact hq ρ H .refl r _ (by rw [cut_whole hw]; exact .tup h1 d1)
      · exact hq ρ _ (Ext.fresh hp) (r.tup hp _) _ (.tup (TupD.new ho) ((d1.cut lo hi).mono (Ext.fresh hp)))
  · cases hf
    cases dx with
    | rol h1 d1 =>
      refine sl_list pins s σ H _ v vl vu lo hi sl Q I rx hs pl pu ⟨_, _, rfl, h1.sq, fun p hp => ?_⟩
      obtain ⟨r2, e2, h2⟩ := r.newL hp (d1.cut lo hi)
      exact hq _ _ e2 r2 _ (.loc h2)
  · split at hf
    · rename_i hm
      cases hf
      obtain ⟨a, vs, rfl, a1, a2, a3⟩ := r.lst hm dx
      refine sl_list pins s σ H _ v vl vu lo hi sl Q I rx hs pl pu ⟨_, _, rfl, SqL.of a2, fun p hp => ?_⟩
      obtain ⟨r2, e2, h2⟩ := r.newL hp (a3.cut lo hi)
      exact hq _ _ e2 r2 _ (.loc h2)
    · cases hf
  · split at hf
    · rename_i hz
      cases hf; cases dx
      exact sl_str pins s σ H _ v vl vu lo hi sl Q I rx hs pl pu ⟨_, rfl, hz, hq ρ H .refl r _ (.str _)⟩
    · cases hf
  · cases hf
def fSl (f : FE) (g h : FO) : FE := fun env M => bnd (f env M) fun d M1 => bnd (g env M1) fun lo M2 => bnd (h env M2) fun hi M3 => slD d lo hi M3
theorem se_slice {lo hi : Option Expr} {g h : FO} {p2 : Pos} (ha : SE X ct a fa) (hl : SPo X ct lo g) (hh : SPo X ct hi h) : SE X ct (.Subscript a (.Slice lo hi none p2) pos) (fSl fa g h) :=
  PE.imp (pe_slice sl_all ha hl hh) fun σ H Q ⟨ρ, M, env, r, he, d, M', hf, hq⟩ => by
    obtain ⟨x, M1, h1, hf⟩ := bnd_some hf
    obtain ⟨o, M2, h2, hf⟩ := bnd_some hf
    obtain ⟨o', M3, h3, hf⟩ := bnd_some hf
    exact ⟨ρ, M, env, r, he, x, M1, h1, fun ρ1 H1 e1 r1 v dv => ⟨ρ1, M1, env, r1, he.mono e1, o, M2, h2, fun ρ2 H2 e2 r2 => ⟨ρ2, M2, env, r2, (he.mono e1).mono e2, o', M3, h3, fun ρ3 H3 e3 r3 =>
      ⟨ρ3, M3, x, r3, (dv.mono e2).mono e3, d, M', hf, hq.later ((e1.trans e2).trans e3)⟩⟩⟩⟩
end
end Zl

/-! text Z5 -/
namespace Zl
open PySem L2 PySem.Spec PyProof.Rows

/-- the items of a thing that can be walked whole: tuple, list -/
def itemsD (M : Mem) : Dv → Option (List Dv)
  | .tup xs => some xs
  | .pr xs => some xs
  | .rol xs => some xs
  | .loc n => match M[n]? with
    | some (.lst xs) => some xs
    | _ => none
  | _ => none
def intsD : List Dv → Option (List Int)
  | [] => some []
  | .int i :: r => match intsD r with
    | some ns => some (i :: ns)
    | none => none
  | _ :: _ => none
def blsD : List Dv → Option (List Bool)
  | [] => some []
  | .bl b :: r => match blsD r with
    | some bs => some (b :: bs)
    | none => none
  | _ :: _ => none
section
variable {K : Frg} {ct : Ct} {ρ : List Addr} {M : Mem} {H : Hp}
theorem items_sq (r : Rl K ct ρ M H) {d : Dv} {v : V} {xs : List Dv} (h : DV K ρ H d v) (e : itemsD M d = some xs) : ∃ a vs, v = .ref a ∧ DVs K ρ H xs vs ∧ (SqL K H a vs ∨ SqT K H a vs) := by
  unfold itemsD at e
  split at e
  · cases e
    cases h with
    | tup hs hd => exact ⟨_, _, rfl, hd, .inr hs.sq⟩
  · cases e
    cases h with
    | pr hs hd => exact ⟨_, _, rfl, hd, .inr hs⟩
  · cases e
    cases h with
    | rol hs hd => exact ⟨_, _, rfl, hd, .inl hs.sq⟩
  · split at e
    · rename_i hm
      cases e
      obtain ⟨a, vs, rfl, a1, a2, a3⟩ := r.lst hm h
      exact ⟨a, vs, rfl, a3, .inl (SqL.of a2)⟩
    · cases e
  · cases e
theorem ints_of : ∀ {xs : List Dv} {vs : List V} {ns : List Int}, DVs K ρ H xs vs → intsD xs = some ns → vs = ns.map V.int
  | _, _, _, .nil, e => by cases e; rfl
  | .int i :: r, _, _, .cons h t, e => by
    unfold intsD at e
    split at e
    · rename_i ns hn
      cases e; cases h
      rw [ints_of t hn]; rfl
    · cases e
theorem bls_of : ∀ {xs : List Dv} {vs : List V} {ns : List Bool}, DVs K ρ H xs vs → blsD xs = some ns → vs = ns.map V.bl
  | _, _, _, .nil, e => by cases e; rfl
  | .bl i :: r, _, _, .cons h t, e => by
    unfold blsD at e
    split at e
    · rename_i ns hn
      cases e; cases h
      rw [bls_of t hn]; rfl
    · cases e
theorem dvs_nil {vs : List V} (h : DVs K ρ H [] vs) : vs = [] := by cases h; rfl
theorem dvs_one {d : Dv} {vs : List V} (h : DVs K ρ H [d] vs) : ∃ v, vs = [v] ∧ DV K ρ H d v := by
  cases h with
  | cons h t => cases t; exact ⟨_, rfl, h⟩
theorem dvs_two {d e : Dv} {vs : List V} (h : DVs K ρ H [d, e] vs) : ∃ v u, vs = [v, u] ∧ DV K ρ H d v ∧ DV K ρ H e u := by
  cases h with
  | cons h t =>
    obtain ⟨u, rfl, h2⟩ := dvs_one t
    exact ⟨_, u, rfl, h, h2⟩
end
def maxI : Int → List Int → Int
  | m, [] => m
  | m, x :: xs => maxI (if x > m then x else m) xs
def minI : Int → List Int → Int
  | m, [] => m
  | m, x :: xs => minI (if x < m then x else m) xs
theorem maxI_ok : ∀ (xs : List Int) (m : Int), maxI m xs ∈ m :: xs ∧ ∀ y ∈ m :: xs, y ≤ maxI m xs
  | [], m => ⟨by simp [maxI], by simp [maxI]⟩
  | x :: xs, m => by
    obtain ⟨h1, h2⟩ := maxI_ok xs (if x > m then x else m)
    have h3 := h2 _ List.mem_cons_self
    refine ⟨?_, fun y hy => ?_⟩
    · unfold maxI
      rcases List.mem_cons.mp h1 with e | e
      · rw [e]; split <;> simp
      · exact List.mem_cons_of_mem _ (List.mem_cons_of_mem _ e)
    · unfold maxI
      rcases List.mem_cons.mp hy with e | hy
      · have h4 : y ≤ (if x > y then x else y) := by split <;> omega
        subst e; omega
      · rcases List.mem_cons.mp hy with e | hy
        · have h4 : y ≤ (if y > m then y else m) := by split <;> omega
          subst e; omega
        · exact h2 _ (List.mem_cons_of_mem _ hy)
theorem minI_ok : ∀ (xs : List Int) (m : Int), minI m xs ∈ m :: xs ∧ ∀ y ∈ m :: xs, minI m xs ≤ y
  | [], m => ⟨by simp [minI], by simp [minI]⟩
  | x :: xs, m => by
    obtain ⟨h1, h2⟩ := minI_ok xs (if x < m then x else m)
    have h3 := h2 _ List.mem_cons_self
    refine ⟨?_, fun y hy => ?_⟩
    · unfold minI
      rcases List.mem_cons.mp h1 with e | e
      · rw [e]; split <;> simp
      · exact List.mem_cons_of_mem _ (List.mem_cons_of_mem _ e)
    · unfold minI
      rcases List.mem_cons.mp hy with e | hy
      · have h4 : (if x < y then x else y) ≤ y := by split <;> omega
        subst e; omega
      · rcases List.mem_cons.mp hy with e | hy
        · have h4 : (if y < m then y else m) ≤ y := by split <;> omega
          subst e; omega
        · exact h2 _ (List.mem_cons_of_mem _ hy)

section
variable {X : Cx} {ct : Ct} {e a b : Expr} {es : List Expr} {pos p : Pos} {fa fb : FE} {fr : FA}
/-! ### built-ins by values -/
def lenD : List Dv → Mem → Rz
  | [.str x], M => if x.length ≤ sizeLine then some (.int x.length, M) else none
  | [d], M => match itemsD M d with
    | some xs => some (.int xs.length, M)
    | none => none
  | _, _ => none
theorem sc_len : SC X ct (.builtin "len") lenD := by
  intro pins s σ H xs us Q I rv h
  obtain ⟨ρ, M, ds, r, dv, z, M', hf, hq⟩ := h
  unfold lenD at hf
  split at hf
  · split at hf
    · rename_i hl
      cases hf
      obtain ⟨v, rfl, d1⟩ := dvs_one dv
      cases d1
      exact call_len_str pins s σ H _ us Q I rv ⟨_, rfl, hl, hq ρ H .refl r _ (.int _)⟩
    · cases hf
  · split at hf
    · rename_i ys hy
      cases hf
      obtain ⟨v, rfl, d1⟩ := dvs_one dv
      obtain ⟨a, vs, rfl, d2, hs⟩ := items_sq r d1 hy
      refine call_len_seq pins s σ H _ us Q I rv ⟨_, _, rfl, hs, hq ρ H .refl r _ ?_⟩
      rw [d2.length]; exact .int _
    · cases hf
  · cases hf
def intD : List Dv → Mem → Rz
  | [.int i], M => some (.int i, M)
  | [.bl k], M => some (.int (if k then 1 else 0), M)
  | _, _ => none
theorem sc_int : SC X ct (.type "int") intD := by
  intro pins s σ H xs us Q I rv h
  obtain ⟨ρ, M, ds, r, dv, z, M', hf, hq⟩ := h
  unfold intD at hf
  split at hf
  · cases hf
    obtain ⟨v, rfl, d1⟩ := dvs_one dv
    cases d1
    exact call_int1 pins s σ H _ us Q I rv (.inl ⟨_, rfl, hq ρ H .refl r _ (.int _)⟩)
  · cases hf
    obtain ⟨v, rfl, d1⟩ := dvs_one dv
    cases d1
    exact call_int1 pins s σ H _ us Q I rv (.inr ⟨_, rfl, hq ρ H .refl r _ (.int _)⟩)
  · cases hf
def absD : List Dv → Mem → Rz
  | [.int i], M => some (.int (if i < 0 then -i else i), M)
  | _, _ => none
theorem sc_abs : SC X ct (.builtin "abs") absD := by
  intro pins s σ H xs us Q I rv h
  obtain ⟨ρ, M, ds, r, dv, z, M', hf, hq⟩ := h
  unfold absD at hf
  split at hf
  · cases hf
    obtain ⟨v, rfl, d1⟩ := dvs_one dv
    cases d1
    exact call_abs pins s σ H _ us Q I rv ⟨_, rfl, hq ρ H .refl r _ (.int _)⟩
  · cases hf
def maxD : List Dv → Mem → Rz
  | [.int i, .int j], M => some (.int (if j > i then j else i), M)
  | [.loc n], M => match M[n]? with
    | some (.lst xs) => match intsD xs with
      | some (m :: ms) => some (.int (maxI m ms), M)
      | _ => none
    | _ => none
  | _, _ => none
theorem sc_max (hc : X.calm = true) : SC X ct (.builtin "max") maxD := by
  intro pins s σ H xs us Q I rv h
  obtain ⟨ρ, M, ds, r, dv, z, M', hf, hq⟩ := h
  unfold maxD at hf
  split at hf
  · cases hf
    obtain ⟨v, u, rfl, d1, d2⟩ := dvs_two dv
    cases d1; cases d2
    exact call_max2 hc pins s σ H _ us Q I rv ⟨_, _, rfl, hq ρ H .refl r _ (.int _)⟩
  · split at hf
    · rename_i hm
      split at hf
      · rename_i m ms hi
        cases hf
        obtain ⟨v, rfl, d1⟩ := dvs_one dv
        obtain ⟨a, vs, rfl, a1, a2, a3⟩ := r.lst hm d1
        have e := ints_of a3 hi
        subst e
        refine cr_max hc pins s σ H _ us Q I rv ⟨_, _, rfl, SqL.of a2, by simp, fun k hk hy => ?_⟩
        obtain ⟨o1, o2⟩ := maxI_ok ms m
        have e1 := hy _ o1
        have e2 := o2 _ hk
        have e3 : k = maxI m ms := by omega
        subst e3
        exact hq ρ H .refl r _ (.int _)
      · cases hf
    · cases hf
  · cases hf
def minD : List Dv → Mem → Rz
  | [.int i, .int j], M => some (.int (if j < i then j else i), M)
  | [.loc n], M => match M[n]? with
    | some (.lst xs) => match intsD xs with
      | some (m :: ms) => some (.int (minI m ms), M)
      | _ => none
    | _ => none
  | _, _ => none
theorem sc_min (hc : X.calm = true) : SC X ct (.builtin "min") minD := by
  intro pins s σ H xs us Q I rv h
  obtain ⟨ρ, M, ds, r, dv, z, M', hf, hq⟩ := h
  unfold minD at hf
  split at hf
  · cases hf
    obtain ⟨v, u, rfl, d1, d2⟩ := dvs_two dv
    cases d1; cases d2
    exact call_min2 hc pins s σ H _ us Q I rv ⟨_, _, rfl, hq ρ H .refl r _ (.int _)⟩
  · split at hf
    · rename_i hm
      split at hf
      · rename_i m ms hi
        cases hf
        obtain ⟨v, rfl, d1⟩ := dvs_one dv
        obtain ⟨a, vs, rfl, a1, a2, a3⟩ := r.lst hm d1
        have e := ints_of a3 hi
        subst e
        refine cr_min hc pins s σ H _ us Q I rv ⟨_, _, rfl, SqL.of a2, by simp, fun k hk hy => ?_⟩
        obtain ⟨o1, o2⟩ := minI_ok ms m
        have e1 := hy _ o1
        have e2 := o2 _ hk
        have e3 : k = minI m ms := by omega
        subst e3
        exact hq ρ H .refl r _ (.int _)
      · cases hf
    · cases hf
  · cases hf
def sumD : List Dv → Mem → Rz
  | [.loc n], M => match M[n]? with
    | some (.lst xs) => match intsD xs with
      | some ns => some (.int ns.sum, M)
      | _ => none
    | _ => none
  | _, _ => none
theorem sc_sum (hc : X.calm = true) : SC X ct (.builtin "sum") sumD := by
  intro pins s σ H xs us Q I rv h
  obtain ⟨ρ, M, ds, r, dv, z, M', hf, hq⟩ := h
  unfold sumD at hf
  split at hf
  · split at hf
    · rename_i hm
      split at hf
      · rename_i ns hi
        cases hf
        obtain ⟨v, rfl, d1⟩ := dvs_one dv
        obtain ⟨a, vs, rfl, a1, a2, a3⟩ := r.lst hm d1
        have e := ints_of a3 hi
        subst e
        exact cr_sum hc pins s σ H _ us Q I rv ⟨_, _, rfl, SqL.of a2, hq ρ H .refl r _ (.int _)⟩
      · cases hf
    · cases hf
  · cases hf
def allD : List Dv → Mem → Rz
  | [.loc n], M => match M[n]? with
    | some (.lst xs) => match blsD xs with
      | some bs => some (.bl (bs.all id), M)
      | _ => none
    | _ => none
  | _, _ => none
def anyD : List Dv → Mem → Rz
  | [.loc n], M => match M[n]? with
    | some (.lst xs) => match blsD xs with
      | some bs => some (.bl (bs.any id), M)
      | _ => none
    | _ => none
  | _, _ => none
theorem sc_all (hc : X.calm = true) : SC X ct (.builtin "all") allD := by
  intro pins s σ H xs us Q I rv h
  obtain ⟨ρ, M, ds, r, dv, z, M', hf, hq⟩ := h
  unfold allD at hf
  split at hf
  · split at hf
    · rename_i hm
      split at hf
      · rename_i ns hi
        cases hf
        obtain ⟨v, rfl, d1⟩ := dvs_one dv
        obtain ⟨a, vs, rfl, a1, a2, a3⟩ := r.lst hm d1
        have e := bls_of a3 hi
        subst e
        exact cr_all hc pins s σ H _ us Q I rv ⟨_, _, rfl, SqL.of a2, hq ρ H .refl r _ (.bl _)⟩
      · cases hf
    · cases hf
  · cases hf
theorem sc_any (hc : X.calm = true) : SC X ct (.builtin "any") anyD := by
  intro pins s σ H xs us Q I rv h
  obtain ⟨ρ, M, ds, r, dv, z, M', hf, hq⟩ := h
  unfold anyD at hf
  split at hf
  · split at hf
    · rename_i hm
      split at hf
      · rename_i ns hi
        cases hf
        obtain ⟨v, rfl, d1⟩ := dvs_one dv
        obtain ⟨a, vs, rfl, a1, a2, a3⟩ := r.lst hm d1
        have e := bls_of a3 hi
        subst e
        exact cr_any hc pins s σ H _ us Q I rv ⟨_, _, rfl, SqL.of a2, hq ρ H .refl r _ (.bl _)⟩
      · cases hf
    · cases hf
  · cases hf
/-- tuple(list): locked; tuple(tuple): itself -/
theorem call_tupF : CallR X (.type "tuple") (fun xs H Q => ∃ p ys, xs = [.ref p] ∧ ((SqL X.K H p ys ∧ ∀ l o, H l = none → o.dict = none → Q (.ref l) (upd H l (.frz o (.tup ys)))) ∨ (SqT X.K H p ys ∧ Q (.ref p) H))) := by
  intro pins s σ H xs us Q I rv h
  obtain ⟨p, ys, rfl, h⟩ := h
  obtain ⟨u, rfl, rx⟩ := vals1 rv
  cases rx
  rcases h with ⟨hl, q⟩ | ⟨ht, q⟩
  · obtain ⟨ws, rw', pl, hz⟩ := I.list hl
    have hlen := rw'.length
    refine call_tuple_list pl.isList (fun h' kp => ?_) (by simp only [List.size_toArray]; omega)
    have J : Inv X pins σ H { s with heap := h' } := I.kept (t' := s.toks) kp
    exact ⟨V.ref h'.objs.size, _, layT (tk := s.toks) J rw' hz, rfl, q _ _ (J.hok.fresh (Nat.le_refl _)) rfl⟩
  · obtain ⟨ws, rw', pl, hz⟩ := I.tuple ht
    exact call_tuple_same pl ⟨V.ref p, H, I, rfl, q⟩
def tupD : List Dv → Mem → Rz
  | [.tup xs], M => some (.tup xs, M)
  | [.loc n], M => match M[n]? with
    | some (.lst xs) => some (.tup xs, M)
    | _ => none
  | _, _ => none
theorem sc_tuple : SC X ct (.type "tuple") tupD := by
  intro pins s σ H xs us Q I rv h
  obtain ⟨ρ, M, ds, r, dv, z, M', hf, hq⟩ := h
  unfold tupD at hf
  split at hf
  · cases hf
    obtain ⟨v, rfl, d1⟩ := dvs_one dv
    cases d1 with
    | tup hs hd => exact call_tupF pins s σ H _ us Q I rv ⟨_, _, rfl, .inr ⟨hs.sq, hq ρ H .refl r _ (.tup hs hd)⟩⟩
  · split at hf
    · rename_i hm
      cases hf
      obtain ⟨v, rfl, d1⟩ := dvs_one dv
      obtain ⟨a, vs, rfl, a1, a2, a3⟩ := r.lst hm d1
      exact call_tupF pins s σ H _ us Q I rv ⟨_, _, rfl, .inl ⟨SqL.of a2, fun p o hp ho => hq ρ _ (Ext.fresh hp) (r.tup hp _) _ (.tup (TupD.new ho) (a3.mono (Ext.fresh hp)))⟩⟩
    · cases hf
  · cases hf
def lstD : List Dv → Mem → Rz
  | [d], M => match itemsD M d with
    | some xs => some (.loc M.length, M ++ [.lst xs])
    | none => none
  | _, _ => none
theorem sc_list : SC X ct (.type "list") lstD := by
  intro pins s σ H xs us Q I rv h
  obtain ⟨ρ, M, ds, r, dv, z, M', hf, hq⟩ := h
  unfold lstD at hf
  split at hf
  · split at hf
    · rename_i ys hy
      cases hf
      obtain ⟨v, rfl, d1⟩ := dvs_one dv
      obtain ⟨a, vs, rfl, d2, hs⟩ := items_sq r d1 hy
      refine call_list_of pins s σ H _ us Q I rv ⟨_, _, rfl, hs, fun p hp => ?_⟩
      obtain ⟨r2, e2, h2⟩ := r.newL hp d2
      exact hq _ _ e2 r2 _ (.loc h2)
    · cases hf
  · cases hf
def divmodD : List Dv → Mem → Rz
  | [.int i, .int j], M => if 0 < j ∧ j < 1073741824 then some (.pr [.int (i / j), .int (i % j)], M) else none
  | _, _ => none
theorem sc_divmod : SC X ct (.builtin "divmod") divmodD := by
  intro pins s σ H xs us Q I rv h
  obtain ⟨ρ, M, ds, r, dv, z, M', hf, hq⟩ := h
  unfold divmodD at hf
  split at hf
  · split at hf
    · rename_i hl
      cases hf
      obtain ⟨v, u, rfl, d1, d2⟩ := dvs_two dv
      cases d1; cases d2
      exact call_divmod pins s σ H _ us Q I rv ⟨_, _, rfl, hl, fun p hp => hq ρ _ (Ext.fresh hp) (r.tup hp _) _ (.pr (SqT.of upd_same) (.cons (.int _) (.cons (.int _) .nil)))⟩
    · cases hf
  · cases hf
/-! ### isinstance of a built-in type -/
def tyName (M : Mem) : Dv → Option String
  | .non => some "NoneType"
  | .bl _ => some "bool"
  | .int _ => some "int"
  | .str _ => some "str"
  | .tup _ => some "tuple"
  | .rol _ => some "list"
  | .loc n => match M[n]? with
    | some (.lst _) => some "list"
    | some (.dct _) => some "dict"
    | _ => none
  | _ => none
def tyIs (T a : String) : Bool := a == T || (T == "int" && a == "bool")
def isiD : List Dv → Mem → Rz
  | [d, .ty T], M => if ["int", "bool", "str", "tuple", "list"].contains T then match tyName M d with
      | some a => some (.bl (tyIs T a), M)
      | none => none
    else none
  | _, _ => none
theorem kit_all : (["int", "bool", "str", "tuple", "list"].all fun T => ["NoneType", "bool", "int", "str", "tuple", "list", "dict"].all fun a => kitB a T == some (tyIs T a)) = true := by decide +kernel
theorem kit_two {T a : String} (h1 : ["int", "bool", "str", "tuple", "list"].contains T = true) (h2 : ["NoneType", "bool", "int", "str", "tuple", "list", "dict"].contains a = true) : kitB a T = some (tyIs T a) := by
  have h := kit_all
  rw [List.all_eq_true] at h
  have h3 := h T (by simpa using h1)
  rw [List.all_eq_true] at h3
  exact eq_of_beq (h3 a (by simpa using h2))
theorem tyName_ok {ρ : List Addr} {M : Mem} {H : Hp} {K : Frg} (r : Rl K ct ρ M H) {d : Dv} {v : V} {a : String} (h : DV K ρ H d v) (e : tyName M d = some a) :
    TyX K H v (.type a) ∧ ["NoneType", "bool", "int", "str", "tuple", "list", "dict"].contains a = true := by
  unfold tyName at e
  split at e
  · cases e; cases h; exact ⟨.base .non, by decide⟩
  · cases e; cases h; exact ⟨.base (.bl _), by decide⟩
  · cases e; cases h; exact ⟨.base (.int _), by decide⟩
  · cases e; cases h; exact ⟨.base (.str _), by decide⟩
  · cases e
    cases h with
    | tup hs hd =>
      refine ⟨?_, by decide⟩
      rcases hs with ⟨o, hs, _⟩ | ⟨o, its, n, h1, h2, _⟩
      · exact .fTuple hs
      · exact .kTuple h1 h2
  · cases e
    cases h with
    | rol hs hd =>
      refine ⟨?_, by decide⟩
      rcases hs with ⟨o, hs⟩ | ⟨_, o, h1, h2⟩
      · exact .base (.frz hs)
      · exact .kList h1 h2
  · split at e
    · rename_i hm
      cases e
      obtain ⟨a, vs, rfl, a1, a2, a3⟩ := r.lst hm h
      exact ⟨.base (.lst a2), by decide⟩
    · rename_i hm
      cases e
      obtain ⟨a, h1, vs, h2, h3, h4⟩ := r.ok _ _ hm
      cases h with
      | loc h => rw [h] at h1; cases h1; exact ⟨.base (.dK h2), by decide⟩
    · cases e
  · cases e
theorem sc_isi : SC X ct (.builtin "isinstance") isiD := by
  intro pins s σ H xs us Q I rv h
  obtain ⟨ρ, M, ds, r, dv, z, M', hf, hq⟩ := h
  unfold isiD at hf
  split at hf
  · split at hf
    · rename_i hT
      split at hf
      · rename_i a ha
        cases hf
        obtain ⟨v, u, rfl, d1, d2⟩ := dvs_two dv
        cases d2
        obtain ⟨t1, t2⟩ := tyName_ok r d1 ha
        exact call_isi pins s σ H _ us Q I rv ⟨v, _, _, _, _, rfl, .ty _, t1, kit_ty (kit_two hT t2), hq ρ H .refl r _ (.bl _)⟩
      · cases hf
    · cases hf
  · cases hf
/-- a built-in class by its name, as a value -/
theorem se_ty {x : Str} {T : String} (hg : Gl X x) (hm : X.mg x = none) (hv : bootBuiltins x = some (.type T)) (hn : x ≠ "__name__" := by decide) (hd : (x == ("__debug__" : Str)) = false := by decide) : SE X ct (.Name x pos) (fK (.ty T)) :=
  PE.imp (pe_bltn (v := .ty T) hg hm hv rfl hn hd) fun _ _ _ h => tE.const (fun _ _ => .ty T) h
/-! ### repr -/
def reprD : List Dv → Mem → Rz
  | [d], M => match d with
    | .int i => if i.natAbs.log2 < 1920 then some (.str (toString i), M) else none
    | .tup _ | .rol _ | .loc _ => match rd M deep d with
      | some p => if p.showable = true ∧ p.hasDict = false ∧ p.depth ≤ 60 ∧ p.shown.length ≤ sizeLine then some (.str p.shown, M) else none
      | none => none
    | _ => none
  | _, _ => none
theorem sc_repr (hg : X.A.guards = some []) (hu : X.A.units + 64 < cLine) : SC X ct (.builtin "repr") reprD := by
  intro pins s σ H xs us Q I rv h
  obtain ⟨ρ, M, ds, r, dv, z, M', hf, hq⟩ := h
  have deepen : ∀ {d : Dv} {v : V} {a : Addr}, DV X.K ρ H d v → v = .ref a → xs = [v] → (match rd M deep d with
      | some p => if p.showable = true ∧ p.hasDict = false ∧ p.depth ≤ 60 ∧ p.shown.length ≤ sizeLine then some (Dv.str p.shown, M) else none
      | none => none) = some (z, M') → wpAny (model X.prog X.w) X.A (call (.builtin "repr") us) (EP X pins σ Q) X.xe s := by
    intro d v a hd ev ex hf
    subst ex; subst ev
    split at hf
    · rename_i p hp
      split at hf
      · rename_i hs
        cases hf
        obtain ⟨u, rfl, ru⟩ := vals1 rv
        cases ru
        obtain ⟨as, hr⟩ := Dp.reads I _ _ _ (rd_dp r _ hd hp) rfl
        refine repr_of_reads' hr hs.1 (PyData.noDict_hsm hs.2.1) hg (by omega) (fun _ _ q => q) (fun h' t tk hk => ?_) hs.2.2.2
        exact ⟨V.str p.shown, H, I.kept (t' := tk) hk, ⟨_, rfl⟩, hq ρ H .refl r _ (.str _)⟩
      · cases hf
    · cases hf
  unfold reprD at hf
  split at hf
  · rename_i d _
    obtain ⟨v, ex, d1⟩ := dvs_one dv
    split at hf
    · split at hf
      · rename_i hl
        cases hf; cases d1; subst ex
        exact SkE.call_repr_int pins s σ H _ us Q I rv ⟨_, rfl, hl, hq ρ H .refl r _ (.str _)⟩
      · cases hf
    · have d2 := d1
      cases d1
      exact deepen d2 rfl ex hf
    · have d2 := d1
      cases d1
      exact deepen d2 rfl ex hf
    · have d2 := d1
      cases d1
      exact deepen d2 rfl ex hf
    · cases hf
  · cases hf
end
end Zl

/-! text Z6 -/
namespace Zl
open PySem L2 PySem.Spec PyProof.Rows

abbrev FM := Dv → List Dv → Mem → Rz
def tMt (K : Frg) (ct : Ct) (h : FM) : V → List V → Hp → VK → Prop := fun x xs H Q => ∃ ρ M d ds, Rl K ct ρ M H ∧ DV K ρ H d x ∧ DVs K ρ H ds xs ∧ ∃ z M', h d ds M = some (z, M') ∧ Aft K ct ρ H M' fun ρ' H' => ∀ v, DV K ρ' H' z v → Q v H'
abbrev SM (X : Cx) (ct : Ct) (id : String) (h : FM) : Prop := MtR X id (tMt X.K ct h)
/-- of which built-in type the receiver is -/
def isTy (T : String) (d : Dv) (M : Mem) : Bool :=
  match d with
  | .tup _ => T == "tuple"
  | .rol _ => T == "list"
  | .str _ => T == "str"
  | .loc n => match M[n]? with
    | some (.lst _) => T == "list"
    | _ => false
  | _ => false
section
variable {X : Cx} {ct : Ct} {e o : Expr} {es : List Expr} {apos cpos : Pos} {fo : FE} {fr : FA} {h : FM} {T id : String} {name : Str}
theorem isTy_ok {pins : List (Addr × Obj)} {σ : L2.St} {H : Hp} {s : Shared} {ρ : List Addr} {M : Mem} {d : Dv} {x : V} {v : Value} (I : Inv X pins σ H s) (r : Rl X.K ct ρ M H) (dx : DV X.K ρ H d x) (rx : RelV x v) (ht : isTy T d M = true) :
    s.TypeIs v T ∧ ∀ a, v = .ref a → ∃ ob, s.heap.get? a = some ob ∧ ob.dict = none := by
  unfold isTy at ht
  split at ht
  · have e : T = "tuple" := by simpa using ht
    subst e
    cases dx with
    | tup hs hd =>
      cases rx
      rcases hs with ⟨o, h1, h2⟩ | ⟨o, its, n, h1, h2, h3, h4⟩
      · obtain ⟨g, _, us, _, ob, g2, g3, _⟩ := I.hok _ _ h1
        rw [g] at g2; cases g2
        exact ⟨⟨o, g, g3⟩, fun a e => by cases e; exact ⟨o, g, h2⟩⟩
      · exact ⟨⟨o, I.kIn _ _ h1, h2⟩, fun a e => by cases e; exact ⟨o, I.kIn _ _ h1, h3⟩⟩
  · have e : T = "list" := by simpa using ht
    subst e
    cases dx with
    | rol hs hd => exact tyV_is I rx (.inl ⟨rfl, _, hs.sq⟩)
  · have e : T = "str" := by simpa using ht
    subst e
    cases dx
    exact tyV_is I rx (rfl : tyV X.K "str" (V.str _) H)
  · split at ht
    · rename_i hm
      have e : T = "list" := by simpa using ht
      subst e
      obtain ⟨a, vs, rfl, a1, a2, a3⟩ := r.lst hm dx
      exact tyV_is I rx (.inl ⟨rfl, _, SqL.of a2⟩)
    · exact absurd ht (by decide)
  · exact absurd ht (by decide)
/-- o.m(e, ..) of a built-in type -/
def fM (T : String) (h : FM) (fo : FE) (fr : FA) : FE := fun env M => bnd (fo env M) fun d M1 => if isTy T d M1 then bnd (fr env M1) fun ds M2 => h d ds M2 else none
theorem se_bm (pa : PlainAttrs T) (slot : Slot T name id) (hty : typeOf (.builtin id) = pure (.type "method_descriptor")) (hm : SM X ct id h) (ho : SE X ct o fo) (ha : SA X ct (e :: es) fr)
    (hbase : attributeBase o name X.env (eval o X.env) = eval o X.env := by rfl)
    (hfew : ((backTo cpos (starEach (e :: es) X.env)).all (fun x => !x.1) && (backToKw cpos (keywordEach [] X.env)).all (fun x => x.1.isSome)
      && decide ((e :: es).length + ([] : List Keyword).length + (if ([] : List Keyword).isEmpty then 0 else 1) < 30)) = true := by rfl)
    (hline : (apos.endLine == cpos.line) = true := by rfl)
    (hs : starEach (e :: es) X.env = (false, eval e X.env) :: starEach es X.env := by rfl)
    (hplain : (backTo cpos (starEach es X.env)).any (·.1) = false := by rfl) :
    SE X ct (.Call (.Attribute o name apos) (e :: es) [] cpos) (fM T h fo fr) := by
  refine ⟨fun pins s σ H Q I w => ?_⟩
  obtain ⟨ρ, M, env, r, he, d, M', hf, hq⟩ := w
  obtain ⟨x, M1, h1, hf⟩ := bnd_some hf
  split at hf
  · rename_i ht
    obtain ⟨ys, M2, h2, hf⟩ := bnd_some hf
    refine wpAny_Call_method_late hbase hfew hline rfl (thn (ho.run pins s σ H (fun v H1 => ∃ ρ1, Ext X.K ρ H ρ1 H1 ∧ Rl X.K ct ρ1 M1 H1 ∧ DV X.K ρ1 H1 x v) I ⟨ρ, M, env, r, he, x, M1, h1, fun ρ1 H1 e1 r1 v dv => ⟨ρ1, e1, r1, dv⟩⟩) fun v s1 hv => ?_)
    obtain ⟨y, H1, I1, ry, ρ1, e1, r1, dy⟩ := hv
    obtain ⟨t1, t2⟩ := isTy_ok I1 r1 dy ry ht
    refine ⟨T, id, pa, slot, hty, t1, t2, ?_⟩
    have hA := ha.run cpos pins s1 σ H1 (fun vs H2 => ∃ ρ2, Ext X.K ρ1 H1 ρ2 H2 ∧ Rl X.K ct ρ2 M2 H2 ∧ DVs X.K ρ2 H2 ys vs) I1 ⟨ρ1, M1, env, r1, he.mono e1, ys, M2, h2, fun ρ2 H2 e2 r2 vs dvs => ⟨ρ2, e2, r2, dvs⟩⟩
    rw [hs] at hA ⊢
    refine Calls.callWith_builtin (by show (false || (backTo cpos (starEach es X.env)).any fun z => z.1) = false; rw [hplain]; rfl) (Calls.evalArgs_plain (thn hA fun us s2 hus => ?_))
    obtain ⟨vs, H2, I2, rvs, ρ2, e2, r2, dvs⟩ := hus
    exact hm pins s2 σ H2 y vs v us Q I2 ry rvs ⟨ρ2, M2, x, ys, r2, dy.mono e2, dvs, d, M', hf, hq.later (e1.trans e2)⟩
  · cases hf
theorem se_bm0 (pa : PlainAttrs T) (slot : Slot T name id) (hty : typeOf (.builtin id) = pure (.type "method_descriptor")) (hm : SM X ct id h) (ho : SE X ct o fo)
    (hbase : attributeBase o name X.env (eval o X.env) = eval o X.env := by rfl) (hline : (apos.endLine == cpos.line) = true := by rfl) :
    SE X ct (.Call (.Attribute o name apos) [] [] cpos) (fM T h fo fNil) := by
  refine ⟨fun pins s σ H Q I w => ?_⟩
  obtain ⟨ρ, M, env, r, he, d, M', hf, hq⟩ := w
  obtain ⟨x, M1, h1, hf⟩ := bnd_some hf
  split at hf
  · rename_i ht
    obtain ⟨ys, M2, h2, hf⟩ := bnd_some hf
    cases h2
    refine wpAny_Call_method0_late hbase hline (thn (ho.run pins s σ H (fun v H1 => ∃ ρ1, Ext X.K ρ H ρ1 H1 ∧ Rl X.K ct ρ1 _ H1 ∧ DV X.K ρ1 H1 x v) I ⟨ρ, M, env, r, he, x, _, h1, fun ρ1 H1 e1 r1 v dv => ⟨ρ1, e1, r1, dv⟩⟩) fun v s1 hv => ?_)
    obtain ⟨y, H1, I1, ry, ρ1, e1, r1, dy⟩ := hv
    obtain ⟨t1, t2⟩ := isTy_ok I1 r1 dy ry ht
    refine ⟨T, id, pa, slot, hty, t1, t2, ?_⟩
    refine Calls.callWith_builtin rfl (PySem.evalArgs_none ?_)
    exact hm pins s1 σ H1 y [] v [] Q I1 ry .nil ⟨ρ1, _, x, [], r1, dy, .nil, d, M', hf, hq.later e1⟩
  · cases hf
/-! ### lists -/
def appendD : FM
  | .loc n, [x], M => match M[n]? with
    | some (.lst xs) => if xs.length < sizeLine then some (.non, M.set n (.lst (xs ++ [x]))) else none
    | _ => none
  | _, _, _ => none
theorem sm_append : SM X ct "list.append" appendD := by
  intro pins s σ H x xs v us Q I rx rxs w
  obtain ⟨ρ, M, d, ds, r, dx, dxs, z, M', hf, hq⟩ := w
  unfold appendD at hf
  split at hf
  · split at hf
    · rename_i hm
      split at hf
      · rename_i hl
        cases hf
        obtain ⟨a, vs, rfl, a1, a2, a3⟩ := r.lst hm dx
        obtain ⟨y, rfl, dy⟩ := dvs_one dxs
        obtain ⟨r2, e2⟩ := r.putL a1 a2 (a3.append (.cons dy .nil))
        exact mt_append pins s σ H _ _ v us Q I rx rxs ⟨a, vs, y, rfl, rfl, a2, by rw [← a3.length]; exact hl, hq ρ _ e2 r2 _ .non⟩
      · cases hf
    · cases hf
  · cases hf
def extendD : FM
  | .loc n, [.loc m], M => match M[n]?, M[m]? with
    | some (.lst xs), some (.lst ys) => if xs.length + ys.length ≤ sizeLine then some (.non, M.set n (.lst (xs ++ ys))) else none
    | _, _ => none
  | _, _, _ => none
theorem sm_extend : SM X ct "list.extend" extendD := by
  intro pins s σ H x xs v us Q I rx rxs w
  obtain ⟨ρ, M, d, ds, r, dx, dxs, z, M', hf, hq⟩ := w
  unfold extendD at hf
  split at hf
  · split at hf
    · rename_i hm hm2
      split at hf
      · rename_i hl
        cases hf
        obtain ⟨a, vs, rfl, a1, a2, a3⟩ := r.lst hm dx
        obtain ⟨y, rfl, dy⟩ := dvs_one dxs
        obtain ⟨b, ws, rfl, b1, b2, b3⟩ := r.lst hm2 dy
        obtain ⟨r2, e2⟩ := r.putL a1 a2 (a3.append b3)
        exact mt_extend pins s σ H _ _ v us Q I rx rxs ⟨a, b, vs, ws, rfl, rfl, a2, b2, by rw [← a3.length, ← b3.length]; exact hl, hq ρ _ e2 r2 _ .non⟩
      · cases hf
    · cases hf
  · cases hf
/-- pop(): the last one; pop(i) -/
def popD : FM
  | .loc n, [], M => match M[n]? with
    | some (.lst xs) => match xs[xs.length - 1]? with
      | some d => some (d, M.set n (.lst xs.dropLast))
      | none => none
    | _ => none
  | .loc n, [.int i], M => match M[n]? with
    | some (.lst xs) => if -(2 ^ 63) ≤ i ∧ i < 2 ^ 63 then match seqIndex? i xs.length with
        | some k => match xs[k]? with
          | some d => some (d, M.set n (.lst (xs.eraseIdx k)))
          | none => none
        | none => none
      else none
    | _ => none
  | _, _, _ => none
theorem DVs.dropLast {K : Frg} {ρ : List Addr} {H : Hp} {ds : List Dv} {vs : List V} (h : DVs K ρ H ds vs) : DVs K ρ H ds.dropLast vs.dropLast := by
  rw [List.dropLast_eq_take, List.dropLast_eq_take, h.length]
  exact h.take _
theorem DVs.eraseIdx {K : Frg} {ρ : List Addr} {H : Hp} : ∀ {ds : List Dv} {vs : List V} (i : Nat), DVs K ρ H ds vs → DVs K ρ H (ds.eraseIdx i) (vs.eraseIdx i)
  | _, _, _, .nil => .nil
  | _, _, 0, .cons _ t => t
  | _, _, i + 1, .cons r t => .cons r (DVs.eraseIdx i t)
theorem sm_pop : SM X ct "list.pop" popD := by
  intro pins s σ H x xs v us Q I rx rxs w
  obtain ⟨ρ, M, d, ds, r, dx, dxs, z, M', hf, hq⟩ := w
  unfold popD at hf
  split at hf
  · split at hf
    · rename_i hm
      split at hf
      · rename_i d0 hd
        cases hf
        obtain ⟨a, vs, rfl, a1, a2, a3⟩ := r.lst hm dx
        have := dvs_nil dxs; subst this
        obtain ⟨r2, e2⟩ := r.putL a1 a2 a3.dropLast
        obtain ⟨w, h1, h2⟩ := a3.get hd
        rw [a3.length] at h1
        exact mt_pop pins s σ H _ _ v us Q I rx rxs ⟨a, vs, w, rfl, rfl, a2, h1, hq ρ _ e2 r2 _ (h2.mono e2)⟩
      · cases hf
    · cases hf
  · split at hf
    · rename_i hm
      split at hf
      · rename_i hb
        split at hf
        · rename_i k hk
          split at hf
          · rename_i d0 hd
            cases hf
            obtain ⟨a, vs, rfl, a1, a2, a3⟩ := r.lst hm dx
            obtain ⟨y, rfl, dy⟩ := dvs_one dxs
            cases dy
            obtain ⟨r2, e2⟩ := r.putL a1 a2 (a3.eraseIdx k)
            obtain ⟨w, h1, h2⟩ := a3.get hd
            exact mt_popAt pins s σ H _ _ v us Q I rx rxs ⟨a, vs, _, k, w, rfl, rfl, a2, hb.1, hb.2, by rw [← a3.length]; exact hk, h1, hq ρ _ e2 r2 _ (h2.mono e2)⟩
          · cases hf
        · cases hf
      · cases hf
    · cases hf
  · cases hf
/-- index: the first equal one; flat values, or data of any depth in a list -/
def indexD : FM
  | .loc n, [x], M => match M[n]? with
    | some (.lst ys) => if flatD x && ys.all flatD then match idxB (fun y => eqF y x) ys with
        | some j => some (.int (j : Nat), M)
        | none => none
      else match rd M deep x, rdL (rd M deep) ys with
      | some p, some ps => if SeqAt.shaped p = true ∧ SeqAt.shaped (.list ps) = true then match ps.findIdx? fun z => PyData.eqv z p with
          | some j => some (.int (j : Nat), M)
          | none => none
        else none
      | _, _ => none
    | _ => none
  | _, _, _ => none
theorem sm_index (hu : X.A.units + 65 < cLine) : SM X ct "list.index" indexD := by
  intro pins s σ H x xs v us Q I rx rxs w
  obtain ⟨ρ, M, d, ds, r, dx, dxs, z, M', hf, hq⟩ := w
  unfold indexD at hf
  split at hf
  · split at hf
    · rename_i ys hm
      obtain ⟨a, vs, rfl, a1, a2, a3⟩ := r.lst hm dx
      obtain ⟨y, rfl, dy⟩ := dvs_one dxs
      split at hf
      · rename_i hl
        rw [Bool.and_eq_true] at hl
        split at hf
        · rename_i j hj
          cases hf
          obtain ⟨⟨w, h1, h2⟩, h3⟩ := idxB_some hj
          obtain ⟨u, h4, h5⟩ := a3.get h1
          have fl : ∀ {m : Nat} {c : Dv}, ys[m]? = some c → flatD c = true := fun {m c} hc => List.all_eq_true.mp hl.2 c (List.mem_of_getElem? hc)
          refine mt_index pins s σ H _ _ v us Q I rx rxs ⟨a, vs, y, j, u, rfl, rfl, SqL.of a2, by rw [flat_of dy]; exact hl.1, by rw [flats_of a3]; exact hl.2, h4, by rw [eq_of h5 dy (fl h1) hl.1]; exact h2, fun m w' hm' hw' => ?_, hq ρ H .refl r _ (.int _)⟩
          obtain ⟨c, c1, c2⟩ := a3.back hw'
          rw [eq_of c2 dy (fl c1) hl.1]
          exact h3 m c hm' c1
        · cases hf
      · split at hf
        · rename_i p ps hp hps
          split at hf
          · rename_i hs
            split at hf
            · rename_i j hj
              cases hf
              obtain ⟨h1, h2, h3⟩ := List.findIdx?_eq_some_iff_getElem.mp hj
              refine mt_indexD hu pins s σ H _ _ v us Q I rx rxs ⟨a, y, p, ps, j, ps[j], rfl, rfl, .lst (SqL.of a2) (rdL_dp (fun d v p h1 h2 => rd_dp r _ h1 h2) a3 hps), rd_dp r _ dy hp, hs.2, hs.1, List.getElem?_eq_getElem h1, h2, fun m w' hm' hw' => ?_, hq ρ H .refl r _ (.int _)⟩
              obtain ⟨g1, g2⟩ := List.getElem?_eq_some_iff.mp hw'
              subst g2
              have := h3 m hm'
              simpa using this
            · cases hf
          · cases hf
        · cases hf
    · cases hf
  · cases hf
/-! ### tuples: count, index of flat values -/
def tcountD : FM
  | .tup ys, [x], M => if flatD x && ys.all flatD then some (.int (ys.countP fun y => eqF y x : Nat), M) else none
  | _, _, _ => none
theorem count_eqU {K : Frg} {ρ : List Addr} {H : Hp} {x : Dv} {w : V} (hx : DV K ρ H x w) (fx : flatD x = true) : ∀ {ys : List Dv} {vs : List V} {us : List Value}, DVs K ρ H ys vs → Vals vs us → ys.all flatD = true → us.countP (eqU w) = ys.countP fun y => eqF y x
  | _, _, _, .nil, .nil, _ => rfl
  | _, _, _, .cons h t, .cons r rt, f => by
    rw [List.all_cons, Bool.and_eq_true] at f
    have e : eqU w _ = eqF _ x := (eqU_of r (by rw [flat_of h]; exact f.1)).trans (eq_of h hx f.1 fx)
    rw [List.countP_cons, List.countP_cons, count_eqU hx fx t rt f.2, e]
theorem sm_tcount : SM X ct "tuple.count" tcountD := by
  intro pins s σ H x xs v us Q I rx rxs w
  obtain ⟨ρ, M, d, ds, r, dx, dxs, z, M', hf, hq⟩ := w
  unfold tcountD at hf
  split at hf
  · split at hf
    · rename_i hl
      rw [Bool.and_eq_true] at hl
      cases hf
      obtain ⟨y, rfl, dy⟩ := dvs_one dxs
      obtain ⟨u, rfl, ru⟩ := vals1 rxs
      cases dx with
      | tup hs hd =>
        cases rx
        obtain ⟨ws, rw', ⟨⟨cls, dd, data, sl⟩, ho, hc, n, hd'⟩, hz⟩ := I.tuple hs.sq
        simp only at hc hd'
        subst hc hd'
        refine call_meets PySem.F.slot_tuple_count ⟨_, ho, rfl⟩ PySem.F.entry_tuple_count (PySem.F.args_tuple_count_2 _ _)
          (SeqAt.tuple_countAt _ ws.toArray n dd sl u (eqU y)) ⟨ho, fun c hc => mem_eqAt ru (by rw [flat_of dy]; exact hl.1) rw' (by rw [flats_of hd]; exact hl.2) c (by simpa using hc), ?_⟩
        refine ⟨V.int (ws.countP (eqU y) : Nat), H, I.tok _, ⟨s.toks, rfl⟩, ?_⟩
        rw [count_eqU dy hl.1 hd rw' hl.2]
        exact hq ρ H .refl r _ (.int _)
    · cases hf
  · cases hf
def tindexD : FM
  | .tup ys, [x], M => if flatD x && ys.all flatD then match idxB (fun y => eqF y x) ys with
      | some j => some (.int (j : Nat), M)
      | none => none
    else none
  | _, _, _ => none
theorem sm_tindex : SM X ct "tuple.index" tindexD := by
  intro pins s σ H x xs v us Q I rx rxs w
  obtain ⟨ρ, M, d, ds, r, dx, dxs, z, M', hf, hq⟩ := w
  unfold tindexD at hf
  split at hf
  · rename_i _ ys _
    split at hf
    · rename_i hl
      rw [Bool.and_eq_true] at hl
      split at hf
      · rename_i j hj
        cases hf
        obtain ⟨y, rfl, dy⟩ := dvs_one dxs
        obtain ⟨u, rfl, ru⟩ := vals1 rxs
        obtain ⟨⟨w, h1, h2⟩, h3⟩ := idxB_some hj
        have fl : ∀ {m : Nat} {c : Dv}, ys[m]? = some c → flatD c = true := fun {m c} hc => List.all_eq_true.mp hl.2 c (List.mem_of_getElem? hc)
        cases dx with
        | tup hs hd =>
          cases rx
          obtain ⟨ws, rw', ⟨⟨cls, dd, data, sl⟩, ho, hc, n, hd'⟩, hz⟩ := I.tuple hs.sq
          simp only at hc hd'
          subst hc hd'
          have at_ : ∀ {m : Nat} (hm : m < ws.toArray.size), ∃ c, ys[m]? = some c ∧ eqU y ws.toArray[m] = eqF c _ := fun {m} hm => by
            have hm1 : m < ws.length := by simpa using hm
            have hm2 : m < ys.length := by rw [hd.length, rw'.length]; exact hm1
            have e1 : ys[m]? = some ys[m] := List.getElem?_eq_getElem hm2
            obtain ⟨b, b1, b2⟩ := hd.get e1
            obtain ⟨c, c1, c2⟩ := rw'.get b1
            refine ⟨ys[m], e1, ?_⟩
            have e2 : ws.toArray[m] = c := by simpa using (List.getElem?_eq_some_iff.mp c1).2
            rw [e2]
            exact (eqU_of c2 (by rw [flat_of b2]; exact fl e1)).trans (eq_of b2 dy (fl e1) hl.1)
          have hj1 : j < ws.toArray.size := by
            have := (List.getElem?_eq_some_iff.mp h1).1
            rw [List.size_toArray, ← rw'.length, ← hd.length]; exact this
          refine call_meets PySem.F.slot_tuple_index ⟨_, ho, rfl⟩ PySem.F.entry_tuple_index (PySem.F.args_tuple_index_2 _ _)
            (TI.tuple_indexAt _ ws.toArray n dd sl u (eqU y) j hj1 ?_ ?_) ⟨ho, fun c hc => mem_eqAt ru (by rw [flat_of dy]; exact hl.1) rw' (by rw [flats_of hd]; exact hl.2) c (by simpa using hc), ?_⟩
          · obtain ⟨c, c1, c2⟩ := at_ hj1
            rw [h1] at c1; cases c1
            rw [c2]; exact h2
          · intro m hm hmj
            obtain ⟨c, c1, c2⟩ := at_ hm
            rw [c2]
            exact h3 m c hmj c1
          · exact ⟨V.int (j : Nat), H, I.tok _, ⟨_, rfl⟩, hq ρ H .refl r _ (.int _)⟩
      · cases hf
    · cases hf
  · cases hf
end
end Zl

/-! text Z7 -/
namespace Zl
open PySem L2 PySem.Spec PyProof.Rows

/-! ## Targets -/
/-- equal but for the slots ws -/
def OutEq (ws : List Nat) (σ σ' : L2.St) : Prop := σ'.length = σ.length ∧ ∀ i, i ∉ ws → σ'[i]? = σ[i]?
theorem OutEq.refl {ws : List Nat} {σ : L2.St} : OutEq ws σ σ := ⟨rfl, fun _ _ => rfl⟩
theorem OutEq.set {ws : List Nat} {σ : L2.St} {i : Nat} {v : Option V} (h : i ∈ ws) : OutEq ws σ (σ.set i v) := ⟨by simp, fun j hj => List.getElem?_set_ne fun e => hj (by rw [← e]; exact h)⟩
theorem OutEq.trans {ws : List Nat} {σ σ1 σ2 : L2.St} (a : OutEq ws σ σ1) (b : OutEq ws σ1 σ2) : OutEq ws σ σ2 := ⟨b.1.trans a.1, fun i hi => (b.2 i hi).trans (a.2 i hi)⟩
theorem OutEq.mono {ws us : List Nat} {σ σ' : L2.St} (a : OutEq ws σ σ') (h : ∀ i ∈ ws, i ∈ us) : OutEq us σ σ' := ⟨a.1, fun i hi => a.2 i fun z => hi (h i z)⟩

abbrev FG := Dv → En → Mem → Option (En × Mem)
abbrev FGs := List Dv → En → Mem → Option (En × Mem)
def tG (K : Frg) (ct : Ct) (ws : List Nat) (f : FG) : TG := fun v σ H Q => ∃ ρ M env d, Rl K ct ρ M H ∧ EnOk K ρ H env σ ∧ DV K ρ H d v ∧ ∃ env' M', f d env M = some (env', M') ∧ Aft K ct ρ H M' fun ρ' H' => ∀ σ', EnOk K ρ' H' env' σ' → OutEq ws σ σ' → Q σ' H'
def tGs (K : Frg) (ct : Ct) (ws : List Nat) (f : FGs) : TGs := fun vs σ H Q => ∃ ρ M env ds, Rl K ct ρ M H ∧ EnOk K ρ H env σ ∧ DVs K ρ H ds vs ∧ ∃ env' M', f ds env M = some (env', M') ∧ Aft K ct ρ H M' fun ρ' H' => ∀ σ', EnOk K ρ' H' env' σ' → OutEq ws σ σ' → Q σ' H'
abbrev SG (X : Cx) (ct : Ct) (ws : List Nat) (e : Expr) (f : FG) : Prop := PG X e (tG X.K ct ws f)
abbrev SGs (X : Cx) (ct : Ct) (ws : List Nat) (es : List Expr) (f : FGs) : Prop := PGs X es (tGs X.K ct ws f)
section
variable {X : Cx} {ct : Ct} {ws : List Nat} {e o i' : Expr} {es : List Expr} {pos : Pos} {f : FG} {g : FGs} {fo fi fa : FE}
theorem PG.imp {t t' : TG} (h : PG X e t) (k : ∀ v σ H Q, t' v σ H Q → t v σ H Q) : PG X e t' := ⟨fun pins s σ H v u Q I r w => h.run pins s σ H v u Q I r (k v σ H Q w)⟩
theorem PGs.imp {t t' : TGs} (h : PGs X es t) (k : ∀ v σ H Q, t' v σ H Q → t v σ H Q) : PGs X es t' := ⟨fun pins s σ H v u Q I r w => h.run pins s σ H v u Q I r (k v σ H Q w)⟩
def gN (i : Nat) : FG := fun d env M => some (env.set i (some d), M)
theorem sg_name {i : Nat} {x : Str} (hN : X.N.Nodup) (hi : X.N[i]? = some x) (hx : Loc X.env.scope x) (hw : i ∈ ws := by simp) (hf : X.fn x = true ∨ X.env.scope.names.lookup x = some .local := by first | exact .inl rfl | exact .inr rfl | assumption) : SG X ct ws (.Name x pos) (gN i) :=
  PG.imp (pg_name hN hi hx hf) fun v σ H Q ⟨ρ, M, env, d, r, he, dv, env', M', hf, hq⟩ => by
    cases hf
    exact hq ρ H .refl r _ (he.set i dv) (.set hw)
def gsNil : FGs := fun ds env M => match ds with
  | [] => some (env, M)
  | _ => none
def gsCons (f : FG) (g : FGs) : FGs := fun ds env M => match ds with
  | d :: r => bnd (f d env M) fun e1 M1 => g r e1 M1
  | [] => none
theorem sgs_nil : SGs X ct ws [] gsNil := PGs.imp pgs_nil fun v σ H Q ⟨ρ, M, env, ds, r, he, dv, env', M', hf, hq⟩ => by
  unfold gsNil at hf
  split at hf
  · cases hf
    exact ⟨dvs_nil dv, hq ρ H .refl r σ he .refl⟩
  · cases hf
theorem sgs_cons (h1 : SG X ct ws e f) (h2 : SGs X ct ws es g) (hs : (assignEach (e :: es) X.env).map (·.2) = assign e X.env :: (assignEach es X.env).map (·.2) := by rfl) : SGs X ct ws (e :: es) (gsCons f g) :=
  PGs.imp (pgs_cons h1 h2 hs) fun vs σ H Q ⟨ρ, M, env, ds, r, he, dv, env', M', hf, hq⟩ => by
    unfold gsCons at hf
    split at hf
    · obtain ⟨e1, M1, g1, hf⟩ := bnd_some hf
      cases dv with
      | cons d1 dr =>
        exact ⟨_, _, rfl, ρ, M, env, _, r, he, d1, e1, M1, g1, fun ρ1 H1 x1 r1 σ1 en1 oe1 => ⟨ρ1, M1, e1, _, r1, en1, dr.mono x1, env', M', hf, fun ρ2 H2 x2 r2 σ2 en2 oe2 => hq ρ2 H2 (x1.trans x2) r2 σ2 en2 (oe1.trans oe2)⟩⟩
    · cases hf
/-- (a, b, ..) = a tuple -/
def gT (n : Nat) (g : FGs) : FG := fun d env M => match d with
  | .tup xs => if xs.length = n then g xs env M else none
  | .pr xs => if xs.length = n then g xs env M else none
  | _ => none
theorem sg_tup {k n : Nat} (hc : X.calm = true) (h : SGs X ct ws es g) (hn : (assignEach es X.env).length = n := by rfl) (hst : (assignEach es X.env).findIdx? (·.1) = none := by rfl) : SG X ct ws (.Tuple es k pos) (gT n g) :=
  PG.imp (pg_tup hc h hn hst) fun v σ H Q ⟨ρ, M, env, d, r, he, dv, env', M', hf, hq⟩ => by
    unfold gT at hf
    split at hf
    · split at hf
      · rename_i hl
        cases dv with
        | tup hs hd => exact ⟨_, _, rfl, hs.sq, hd.length ▸ hl, ρ, M, env, _, r, he, hd, env', M', hf, hq⟩
      · cases hf
    · split at hf
      · rename_i hl
        cases dv with
        | pr hs hd => exact ⟨_, _, rfl, hs, hd.length ▸ hl, ρ, M, env, _, r, he, hd, env', M', hf, hq⟩
      · cases hf
    · cases hf
/-- (a, b, ..) = a list -/
def gL (n : Nat) (g : FGs) : FG := fun d env M => match d with
  | .loc m => match M[m]? with
    | some (.lst xs) => if xs.length = n then g xs env M else none
    | _ => none
  | _ => none
theorem sg_unl {k n : Nat} (hc : X.calm = true) (h : SGs X ct ws es g) (hn : (assignEach es X.env).length = n := by rfl) (hst : (assignEach es X.env).findIdx? (·.1) = none := by rfl) : SG X ct ws (.Tuple es k pos) (gL n g) :=
  PG.imp (pg_unl hc h hn hst) fun v σ H Q ⟨ρ, M, env, d, r, he, dv, env', M', hf, hq⟩ => by
    unfold gL at hf
    split at hf
    · split at hf
      · rename_i hm
        split at hf
        · rename_i hl
          obtain ⟨a, vs, rfl, a1, a2, a3⟩ := r.lst hm dv
          exact ⟨_, _, rfl, SqL.of a2, a3.length ▸ hl, ρ, M, env, _, r, he, a3, env', M', hf, hq⟩
        · cases hf
      · cases hf
    · cases hf
/-- o[i] = v of a list -/
def setD (o i v : Dv) (M : Mem) : Option Mem :=
  match o, i with
  | .loc n, .int k => match M[n]? with
    | some (.lst xs) => match ixN xs.length k with
      | some j => some (M.set n (.lst (xs.set j v)))
      | none => none
    | _ => none
  | _, _ => none
def gS (fo fi : FE) : FG := fun d env M => bnd (fo env M) fun o M1 => bnd (fi env M1) fun i M2 => match setD o i d M2 with
  | some M3 => some (env, M3)
  | none => none
theorem sg_sub (ho : SE X ct o fo) (hi : SE X ct i' fi)
    (ha : ∀ v, assign (.Subscript o i' pos) X.env v = (do
      let ov ← holding [v] (eval o X.env)
      let iv ← holding [v, ov] (eval i' X.env)
      standAt pos
      holding [v, ov, iv] (setItem ov iv v)
      release [v, ov, iv] []) := by intro _; rfl) : SG X ct ws (.Subscript o i' pos) (gS fo fi) :=
  PG.imp (pg_sub ho hi set_list ha) fun v σ H Q ⟨ρ, M, env, d, r, he, dv, env', M', hf, hq⟩ => by
    obtain ⟨x, M1, h1, hf⟩ := bnd_some hf
    obtain ⟨y, M2, h2, hf⟩ := bnd_some hf
    refine ⟨ρ, M, env, r, he, x, M1, h1, fun ρ1 H1 e1 r1 w dw => ⟨ρ1, M1, env, r1, he.mono e1, y, M2, h2, fun ρ2 H2 e2 r2 u du => ?_⟩⟩
    split at hf
    · rename_i M3 hs
      cases hf
      unfold setD at hs
      split at hs
      · split at hs
        · rename_i hm
          split at hs
          · rename_i j hj
            cases hs
            obtain ⟨a, vs, rfl, a1, a2, a3⟩ := r2.lst hm (dw.mono e2)
            cases du
            obtain ⟨r3, e3⟩ := r2.putL a1 a2 (a3.set ((dv.mono e1).mono e2) j)
            exact ⟨a, vs, _, j, rfl, rfl, a2, by rw [← a3.length]; exact hj, hq ρ2 _ ((e1.trans e2).trans e3) r3 σ (((he.mono e1).mono e2).mono e3) .refl⟩
          · cases hs
        · cases hs
      · cases hs
    · cases hf
end

/-! ## Statements -/
inductive Fl where
  | nx (env : En)
  | rt (d : Dv)
  | bk (env : En)
  | ct (env : En)
abbrev FS := En → Mem → Option (Fl × Mem)
def endF (K : Frg) (D : Ends) (fl : Fl) (ρ : List Addr) (H : Hp) : Prop :=
  match fl with
  | .nx env => ∀ σ, EnOk K ρ H env σ → D.nx σ H
  | .rt d => ∀ v, DV K ρ H d v → D.rt v H
  | .bk env => ∀ σ, EnOk K ρ H env σ → D.bk σ H
  | .ct env => ∀ σ, EnOk K ρ H env σ → D.ct σ H
def tS (K : Frg) (ct : Ct) (f : FS) : TS := fun D σ H => ∃ ρ M env, Rl K ct ρ M H ∧ EnOk K ρ H env σ ∧ ∃ fl M', f env M = some (fl, M') ∧ Aft K ct ρ H M' fun ρ' H' => endF K D fl ρ' H'
abbrev SS (X : Cx) (ct : Ct) (st : Stmt) (f : FS) : Prop := PS X st (tS X.K ct f)
abbrev SSs (X : Cx) (ct : Ct) (st : List Stmt) (f : FS) : Prop := PSs X st (tS X.K ct f)
section
variable {X : Cx} {ct : Ct} {st : Stmt} {rest body orelse : List Stmt} {e c o v' tg : Expr} {pos tpos : Pos} {f g : FS} {fe fo fv : FE} {ft : FT} {ws : List Nat}
theorem PS.imp {t t' : TS} (h : PS X st t) (k : ∀ D σ H, t' D σ H → t D σ H) : PS X st t' := ⟨fun pins s σ H D I w => h.run pins s σ H D I (k D σ H w)⟩
theorem PSs.imp {t t' : TS} (h : PSs X rest t) (k : ∀ D σ H, t' D σ H → t D σ H) : PSs X rest t' := ⟨fun pins s σ H D I w => h.run pins s σ H D I (k D σ H w)⟩
def fEnd : FS := fun env M => some (.nx env, M)
def fSeq (f g : FS) : FS := fun env M => bnd (f env M) fun fl M1 => match fl with
  | .nx e1 => g e1 M1
  | .rt d => some (.rt d, M1)
  | .bk e1 => some (.bk e1, M1)
  | .ct e1 => some (.ct e1, M1)
theorem ss_nil : SSs X ct [] fEnd := PSs.imp pss_nil fun D σ H ⟨ρ, M, env, r, he, fl, M', hf, hq⟩ => by
  cases hf
  exact hq ρ H .refl r σ he
theorem ss_cons (h1 : SS X ct st f) (h2 : SSs X ct rest g) : SSs X ct (st :: rest) (fSeq f g) :=
  PSs.imp (pss_cons h1 h2) fun D σ H ⟨ρ, M, env, r, he, fl, M', hf, hq⟩ => by
    obtain ⟨f1, M1, h1, hf⟩ := bnd_some hf
    refine ⟨ρ, M, env, r, he, f1, M1, h1, fun ρ1 H1 e1 r1 => ?_⟩
    cases f1 with
    | nx e2 => exact fun σ1 en1 => ⟨ρ1, M1, e2, r1, en1, fl, M', hf, hq.later e1⟩
    | rt d => cases hf; exact hq ρ1 H1 e1 r1
    | bk e2 => cases hf; exact hq ρ1 H1 e1 r1
    | ct e2 => cases hf; exact hq ρ1 H1 e1 r1
theorem ss_one (h1 : SS X ct st f) : SSs X ct [st] f := pss_one h1
theorem ss_pass : SS X ct (.Pass pos) fEnd := PS.imp ps_pass fun D σ H ⟨ρ, M, env, r, he, fl, M', hf, hq⟩ => by
  cases hf
  exact hq ρ H .refl r σ he
def fBrk : FS := fun env M => some (.bk env, M)
def fCnt : FS := fun env M => some (.ct env, M)
theorem ss_break : SS X ct (.Break pos) fBrk := PS.imp ps_break fun D σ H ⟨ρ, M, env, r, he, fl, M', hf, hq⟩ => by
  cases hf
  exact hq ρ H .refl r σ he
theorem ss_continue : SS X ct (.Continue pos) fCnt := PS.imp ps_continue fun D σ H ⟨ρ, M, env, r, he, fl, M', hf, hq⟩ => by
  cases hf
  exact hq ρ H .refl r σ he
/-- code that no run served here comes to -/
def fNo : FS := fun _ _ => none
theorem ss_never : SS X ct st fNo := PS.imp ps_never fun D σ H ⟨_, _, _, _, _, _, _, hf, _⟩ => by cases hf
theorem sss_never : SSs X ct rest fNo := PSs.imp pss_never fun D σ H ⟨_, _, _, _, _, _, _, hf, _⟩ => by cases hf
def fDrop (f : FE) : FS := fun env M => bnd (f env M) fun _ M1 => some (.nx env, M1)
theorem ss_expr (h : SE X ct e fe) (hs : swapsWith e none pos.line X.env = pure false := by rfl) : SS X ct (.Expr e pos) (fDrop fe) :=
  PS.imp (ps_expr h hs) fun D σ H ⟨ρ, M, env, r, he, fl, M', hf, hq⟩ => by
    obtain ⟨x, M1, h1, hf⟩ := bnd_some hf
    cases hf
    exact ⟨ρ, M, env, r, he, x, _, h1, fun ρ1 H1 e1 r1 v dv => hq ρ1 H1 e1 r1 σ (he.mono e1)⟩
def fRet (f : FE) : FS := fun env M => bnd (f env M) fun d M1 => some (.rt d, M1)
theorem ss_ret (h : SE X ct e fe) : SS X ct (.Return (some e) pos) (fRet fe) :=
  PS.imp (ps_ret h) fun D σ H ⟨ρ, M, env, r, he, fl, M', hf, hq⟩ => by
    obtain ⟨x, M1, h1, hf⟩ := bnd_some hf
    cases hf
    exact ⟨ρ, M, env, r, he, x, _, h1, fun ρ1 H1 e1 r1 v dv => hq ρ1 H1 e1 r1 v dv⟩
def fRetN : FS := fun _ M => some (.rt .non, M)
theorem ss_retN : SS X ct (.Return none pos) fRetN :=
  PS.imp ps_retN fun D σ H ⟨ρ, M, env, r, he, fl, M', hf, hq⟩ => by
    cases hf
    exact hq ρ H .refl r _ .non
def fIfS (c : FT) (f g : FS) : FS := fun env M => bnd (c env M) fun b M1 => if b then f env M1 else g env M1
theorem ss_if (hc : ST X ct c ft) (h1 : SSs X ct body f) (h2 : SSs X ct orelse g) : SS X ct (.If c body orelse pos) (fIfS ft f g) :=
  PS.imp (ps_if hc h1 h2) fun D σ H ⟨ρ, M, env, r, he, fl, M', hf, hq⟩ => by
    obtain ⟨b, M1, h1, hf⟩ := bnd_some hf
    refine ⟨ρ, M, env, r, he, b, M1, h1, fun ρ1 H1 e1 r1 => ?_⟩
    cases b with
    | true =>
      rw [if_pos rfl]
      exact ⟨ρ1, M1, env, r1, he.mono e1, fl, M', hf, hq.later e1⟩
    | false =>
      rw [if_neg (by decide)]
      exact ⟨ρ1, M1, env, r1, he.mono e1, fl, M', hf, hq.later e1⟩
/-- name = e -/
def fSet (i : Nat) (f : FE) : FS := fun env M => bnd (f env M) fun d M1 => some (.nx (env.set i (some d)), M1)
theorem ss_set {i : Nat} {x : Str} {pos' : Pos} (hN : X.N.Nodup) (hi : X.N[i]? = some x) (hx : Loc X.env.scope x) (h : SE X ct e fe) (hs : swapsWith e (some (.Name x pos')) pos.line X.env = pure false := by rfl) (hf : X.fn x = true ∨ X.env.scope.names.lookup x = some .local := by first | exact .inl rfl | exact .inr rfl | assumption) :
    SS X ct (.Assign [.Name x pos'] e pos) (fSet i fe) :=
  PS.imp (ps_set hN hi hx h hs hf) fun D σ H ⟨ρ, M, env, r, he, fl, M', hf, hq⟩ => by
    obtain ⟨d, M1, h1, hf⟩ := bnd_some hf
    cases hf
    exact ⟨ρ, M, env, r, he, d, _, h1, fun ρ1 H1 e1 r1 v dv => hq ρ1 H1 e1 r1 _ ((he.mono e1).set i dv)⟩
/-- target = e -/
def fAsg (f : FE) (g : FG) : FS := fun env M => bnd (f env M) fun d M1 => bnd (g d env M1) fun e1 M2 => some (.nx e1, M2)
theorem ss_asg {gg : FG} (h : SE X ct e fe) (hg : SG X ct ws tg gg) (hs : swapsWithSole [tg] e pos.line X.env = pure false := by rfl) (hw : swappedStores [tg] e X.env = pure none := by rfl)
    (h1 : (assignEach [tg] X.env).map (·.2) = [assign tg X.env] := by rfl) : SS X ct (.Assign [tg] e pos) (fAsg fe gg) :=
  PS.imp (ps_asg h hg hs hw h1) fun D σ H ⟨ρ, M, env, r, he, fl, M', hf, hq⟩ => by
    obtain ⟨d, M1, h1, hf⟩ := bnd_some hf
    obtain ⟨e2, M2, h2, hf⟩ := bnd_some hf
    cases hf
    exact ⟨ρ, M, env, r, he, d, M1, h1, fun ρ1 H1 e1 r1 v dv => ⟨ρ1, M1, env, d, r1, he.mono e1, dv, e2, _, h2, fun ρ2 H2 x2 r2 σ2 en2 _ => hq ρ2 H2 (e1.trans x2) r2 σ2 en2⟩⟩
/-- a, b = x, y: plain local names -/
def fPar (is : List Nat) (f : FA) : FS := fun env M => bnd (f env M) fun ds M1 => if ds.length = is.length then some (.nx ((is.zip ds).foldl (fun e p => e.set p.1 (some p.2)) env), M1) else none
theorem ss_par {i j : Nat} {x y : Str} {a b : Expr} {fr : FA} {px py pt : Pos} {kt k2 pt2} (hc : X.calm = true) (hN : X.N.Nodup) (hi : X.N[i]? = some x) (hj : X.N[j]? = some y) (hij : i ≠ j)
    (hx : X.env.scope.names.lookup x = some .local) (hy : X.env.scope.names.lookup y = some .local) (ha : SA X ct [a, b] fr)
    (hw : swappedStores [.Tuple [.Name x px, .Name y py] kt pt] (.Tuple [a, b] k2 pt2) X.env = pure (some [x, y]))
    (hs : swapsWithSole [.Tuple [.Name x px, .Name y py] kt pt] (.Tuple [a, b] k2 pt2) pos.line X.env = pure false := by rfl) :
    SS X ct (.Assign [.Tuple [.Name x px, .Name y py] kt pt] (.Tuple [a, b] k2 pt2) pos) (fPar [i, j] fr) :=
  PS.imp (ps_par hc hN hi hj hij hx hy ha hw hs) fun D σ H ⟨ρ, M, env, r, he, fl, M', hf, hq⟩ => by
    obtain ⟨ds, M1, h1, hf⟩ := bnd_some hf
    split at hf
    · rename_i hl
      cases hf
      refine ⟨ρ, M, env, r, he, ds, _, h1, fun ρ1 H1 e1 r1 vs dvs => ?_⟩
      match ds, hl, dvs with
      | [d1, d2], _, dvs =>
        obtain ⟨u, w, rfl, q1, q2⟩ := dvs_two dvs
        exact ⟨u, w, rfl, hq ρ1 H1 e1 r1 _ (((he.mono e1).set i q1).set j q2)⟩
    · cases hf
theorem ss_par3 {i j l : Nat} {x y z : Str} {a b c : Expr} {fr : FA} {px py pz pt : Pos} {kt k2 pt2} (hc : X.calm = true) (hN : X.N.Nodup) (hi : X.N[i]? = some x) (hj : X.N[j]? = some y) (hl : X.N[l]? = some z) (hij : i ≠ j) (hil : i ≠ l) (hjl : j ≠ l)
    (hx : X.env.scope.names.lookup x = some .local) (hy : X.env.scope.names.lookup y = some .local) (hz : X.env.scope.names.lookup z = some .local) (ha : SA X ct [a, b, c] fr)
    (hw : swappedStores [.Tuple [.Name x px, .Name y py, .Name z pz] kt pt] (.Tuple [a, b, c] k2 pt2) X.env = pure (some [x, y, z]))
    (hs : swapsWithSole [.Tuple [.Name x px, .Name y py, .Name z pz] kt pt] (.Tuple [a, b, c] k2 pt2) pos.line X.env = pure false := by rfl) :
    SS X ct (.Assign [.Tuple [.Name x px, .Name y py, .Name z pz] kt pt] (.Tuple [a, b, c] k2 pt2) pos) (fPar [i, j, l] fr) :=
  PS.imp (ps_par3 hc hN hi hj hl hij hil hjl hx hy hz ha hw hs) fun D σ H ⟨ρ, M, env, r, he, fl, M', hf, hq⟩ => by
    obtain ⟨ds, M1, h1, hf⟩ := bnd_some hf
    split at hf
    · rename_i hl
      cases hf
      refine ⟨ρ, M, env, r, he, ds, _, h1, fun ρ1 H1 e1 r1 vs dvs => ?_⟩
      match ds, hl, dvs with
      | [d1, d2, d3], _, dvs =>
        cases dvs with
        | cons q1 qs =>
          obtain ⟨u, w, rfl, q2, q3⟩ := dvs_two qs
          exact ⟨_, u, w, rfl, hq ρ1 H1 e1 r1 _ ((((he.mono e1).set i q1).set j q2).set l q3)⟩
    · cases hf
/-- name op= e of ints -/
def fAug (i : Nat) (h : Int → Int → Int) (f : FE) : FS := fun env M => match env[i]? with
  | some (some (.int a)) => bnd (f env M) fun d M1 => match d with
    | .int b => some (.nx (env.set i (some (.int (h a b)))), M1)
    | _ => none
  | _ => none
theorem ss_aug {i : Nat} {x : Str} {op : Operator} {h : Int → Int → Int} {pos' : Pos} (hN : X.N.Nodup) (hi : X.N[i]? = some x) (hx : Loc X.env.scope x) (he : SE X ct e fe) (ho : PIp X op (ipI h)) (hf : X.fn x = true ∨ X.env.scope.names.lookup x = some .local := by first | exact .inl rfl | exact .inr rfl | assumption) :
    SS X ct (.AugAssign (.Name x pos') op e pos) (fAug i h fe) :=
  PS.imp (ps_aug hN hi hx he ho hf) fun D σ H ⟨ρ, M, env, r, hen, fl, M', hf, hq⟩ => by
    unfold fAug at hf
    split at hf
    · rename_i a ha
      obtain ⟨d, M1, h1, hf⟩ := bnd_some hf
      split at hf
      · rename_i b
        cases hf
        obtain ⟨v, v1, v2⟩ := hen.2 i _ ha
        cases v2
        refine ⟨_, v1, ρ, M, env, r, hen, _, _, h1, fun ρ1 H1 e1 r1 w dw => ?_⟩
        cases dw
        exact ⟨_, _, rfl, rfl, hq ρ1 H1 e1 r1 _ ((hen.mono e1).set i (.int _))⟩
      · cases hf
    · cases hf

/-! ## while -/
def whileF (c : FT) (body : FS) : Nat → FS
  | 0 => fun _ _ => none
  | k + 1 => fun env M => bnd (c env M) fun b M1 => if b then bnd (body env M1) fun fl M2 => match fl with
      | .nx e1 => whileF c body k e1 M2
      | .ct e1 => whileF c body k e1 M2
      | .bk e1 => some (.nx e1, M2)
      | .rt d => some (.rt d, M2)
    else some (.nx env, M1)
theorem ss_while (k : Nat) (hp : PassesOwn (model X.prog X.w) X.A X.env X.xe) (hc : ST X ct c ft) (hb : SSs X ct body f) : SS X ct (.While c body [] pos) (whileF ft f k) := by
  refine PS.imp (ps_while hp hc hb) fun D σ H w => ?_
  refine ⟨fun m σ H => ∃ ρ M env, Rl X.K ct ρ M H ∧ EnOk X.K ρ H env σ ∧ ∃ fl M', whileF ft f m env M = some (fl, M') ∧ Aft X.K ct ρ H M' fun ρ' H' => endF X.K D fl ρ' H', ⟨k, w⟩, ?_⟩
  intro m σ H w
  obtain ⟨ρ, M, env, r, he, fl, M', hf, hq⟩ := w
  cases m with
  | zero => cases hf
  | succ m =>
    obtain ⟨b, M1, h1, hf⟩ := bnd_some hf
    refine ⟨ρ, M, env, r, he, b, M1, h1, fun ρ1 H1 e1 r1 => ?_⟩
    cases b with
    | false =>
      rw [if_neg (by decide)]
      cases hf
      exact hq ρ1 H1 e1 r1 σ (he.mono e1)
    | true =>
      rw [if_pos rfl]
      rw [if_pos rfl] at hf
      obtain ⟨f1, M2, h2, hf⟩ := bnd_some hf
      refine ⟨fun σ' H' => ∃ ρ M env, Rl X.K ct ρ M H' ∧ EnOk X.K ρ H' env σ' ∧ ∃ fl M', whileF ft f m env M = some (fl, M') ∧ Aft X.K ct ρ H' M' fun ρ' H' => endF X.K D fl ρ' H', fun σ' H' n => ⟨m, Nat.lt_succ_self m, n⟩, ?_⟩
      refine ⟨ρ1, M1, env, r1, he.mono e1, f1, M2, h2, fun ρ2 H2 e2 r2 => ?_⟩
      cases f1 with
      | nx e3 => exact fun σ2 en2 => ⟨ρ2, M2, e3, r2, en2, fl, M', hf, hq.later (e1.trans e2)⟩
      | ct e3 => exact fun σ2 en2 => ⟨ρ2, M2, e3, r2, en2, fl, M', hf, hq.later (e1.trans e2)⟩
      | bk e3 => cases hf; exact fun σ2 en2 => hq ρ2 H2 (e1.trans e2) r2 σ2 en2
      | rt d => cases hf; exact hq ρ2 H2 (e1.trans e2) r2
end
end Zl

/-! text Z8 -/
namespace Zl
open PySem L2 PySem.Spec PyProof.Rows

/-! ## What is walked -/
/-- at turn i: the item, or the end -/
abbrev Stp := Nat → Mem → Option (Option Dv)
structure Src where
  many : Nat
  stp : Stp
def Feeds (K : Frg) (ct : Ct) (ρ0 : List Addr) (H0 : Hp) (J : It) (it : Stp) : Prop := ∀ i ρ M H, Ext K ρ0 H0 ρ H → Rl K ct ρ M H →
  match it i M with
  | some (some d) => J.go i H ∧ ∀ x H', J.yld i H x H' → Ext K ρ H ρ H' ∧ Rl K ct ρ M H' ∧ DV K ρ H' d x
  | some none => J.stop i H
  | none => True
abbrev FI := En → Mem → Option (Src × Mem)
def tI (K : Frg) (ct : Ct) (f : FI) : TI := fun σ H R => ∃ ρ M env, Rl K ct ρ M H ∧ EnOk K ρ H env σ ∧ ∃ src M', f env M = some (src, M') ∧ Aft K ct ρ H M' fun ρ' H' => ∀ J, Feeds K ct ρ' H' J src.stp → R J H'
abbrev SI (X : Cx) (ct : Ct) (tg iter : Expr) (f : FI) : Prop := PI X tg iter (tI X.K ct f)
section
variable {X : Cx} {ct : Ct} {tg iter e a b : Expr} {pos p : Pos} {fe fa fb : FE} {fi : FI} {fr : FA}
theorem PI.imp {t t' : TI} (h : PI X tg iter t) (k : ∀ σ H R, t' σ H R → t σ H R) : PI X tg iter t' := ⟨fun pins s σ H R I w => h.run pins s σ H R I (k σ H R w)⟩
theorem PI.or {t t' : TI} (h : PI X tg iter t) (h' : PI X tg iter t') : PI X tg iter (fun σ H R => t σ H R ∨ t' σ H R) :=
  ⟨fun pins s σ H R I w => w.elim (h.run pins s σ H R I) (h'.run pins s σ H R I)⟩
/-- a tuple, a list, a text -/
def srcOf (M : Mem) : Dv → Option Src
  | .tup xs => some ⟨xs.length, fun i _ => some xs[i]?⟩
  | .rol xs => some ⟨xs.length, fun i _ => some xs[i]?⟩
  | .loc n => match M[n]? with
    | some (.lst xs) => some ⟨xs.length, fun i M => match M[n]? with
      | some (.lst xs) => some xs[i]?
      | _ => none⟩
    | _ => none
  | .str x => some ⟨x.cps.size, fun i _ => some (x.cps[i]?.map fun c => .str ⟨#[c]⟩)⟩
  | _ => none
def fSrc (f : FE) : FI := fun env M => bnd (f env M) fun d M1 => match srcOf M1 d with
  | some s => some (s, M1)
  | none => none
theorem feeds_tup {K : Frg} {ρ0 : List Addr} {H0 : Hp} {a : Addr} {xs : List Dv} {vs : List V} (hs : TupD K H0 a vs) (hd : DVs K ρ0 H0 xs vs) : Feeds K ct ρ0 H0 (Itt K a) (fun i _ => some xs[i]?) := by
  intro i ρ M H x r
  dsimp only
  cases q : xs[i]? with
  | none => exact ⟨vs, (hs.mono x).sq, by rw [← hd.length]; exact List.getElem?_eq_none_iff.mp q⟩
  | some d =>
    obtain ⟨v, h1, h2⟩ := hd.get q
    refine ⟨⟨vs, v, (hs.mono x).sq, h1⟩, fun y H' hy => ?_⟩
    obtain ⟨e, hy⟩ := hy
    subst e
    have := hy vs (hs.mono x).sq
    rw [h1] at this; cases this
    exact ⟨.refl, r, h2.mono x⟩
theorem feeds_rol {K : Frg} {ρ0 : List Addr} {H0 : Hp} {a : Addr} {xs : List Dv} {vs : List V} (hs : SqF K H0 a vs) (hd : DVs K ρ0 H0 xs vs) : Feeds K ct ρ0 H0 (Itl K a) (fun i _ => some xs[i]?) := by
  intro i ρ M H x r
  dsimp only
  cases q : xs[i]? with
  | none => exact ⟨vs, (hs.mono x).sq, by rw [← hd.length]; exact List.getElem?_eq_none_iff.mp q⟩
  | some d =>
    obtain ⟨v, h1, h2⟩ := hd.get q
    refine ⟨⟨vs, v, (hs.mono x).sq, h1⟩, fun y H' hy => ?_⟩
    obtain ⟨e, hy⟩ := hy
    subst e
    have := hy vs (hs.mono x).sq
    rw [h1] at this; cases this
    exact ⟨.refl, r, h2.mono x⟩
theorem feeds_lst {K : Frg} {ρ0 : List Addr} {H0 : Hp} {a : Addr} {n : Nat} (hn : ρ0[n]? = some a) : Feeds K ct ρ0 H0 (Itl K a) (fun i M => match M[n]? with
      | some (.lst xs) => some xs[i]?
      | _ => none) := by
  intro i ρ M H x r
  dsimp only
  split
  · rename_i d hd
    split at hd
    · rename_i xs hm
      obtain ⟨b, vs, eb, b1, b2, b3⟩ := r.lst hm (.loc (x.pre n a hn))
      cases eb
      have q : xs[i]? = some d := by simpa using hd
      obtain ⟨v, h1, h2⟩ := b3.get q
      refine ⟨⟨vs, v, SqL.of b2, h1⟩, fun y H' hy => ?_⟩
      obtain ⟨e, hy⟩ := hy
      subst e
      have := hy vs (SqL.of b2)
      rw [h1] at this; cases this
      exact ⟨.refl, r, h2⟩
    · cases hd
  · rename_i hd
    split at hd
    · rename_i xs hm
      obtain ⟨b, vs, eb, b1, b2, b3⟩ := r.lst hm (.loc (x.pre n a hn))
      cases eb
      have q : xs[i]? = none := by simpa using hd
      exact ⟨vs, SqL.of b2, by rw [← b3.length]; exact List.getElem?_eq_none_iff.mp q⟩
    · cases hd
  · trivial
theorem feeds_str {K : Frg} {ρ0 : List Addr} {H0 : Hp} {x : Str} : Feeds K ct ρ0 H0 (Its x) (fun i _ => some (x.cps[i]?.map fun c => .str ⟨#[c]⟩)) := by
  intro i ρ M H _ r
  dsimp only
  cases q : x.cps[i]? with
  | none => exact Array.getElem?_eq_none_iff.mp q
  | some c =>
    refine ⟨(Array.getElem?_eq_some_iff.mp q).1, fun y H' hy => ?_⟩
    obtain ⟨e, c', hc', ey⟩ := hy
    subst e; subst ey
    rw [q] at hc'; cases hc'
    exact ⟨.refl, r, .str _⟩
theorem si_seq (h : SE X ct e fe) : SI X ct tg e (fSrc fe) := by
  refine PI.imp (PI.or (PI.or (pi_list h) (pi_tup h)) (pi_str h)) fun σ H R ⟨ρ, M, env, r, he, src, M', hf, hq⟩ => ?_
  obtain ⟨d, M1, h1, hf⟩ := bnd_some hf
  split at hf
  · rename_i s0 hs
    cases hf
    unfold srcOf at hs
    split at hs
    · cases hs
      exact .inl (.inr ⟨ρ, M, env, r, he, _, _, h1, fun ρ1 H1 e1 r1 v dv => by
        cases dv with
        | tup hs hd => exact ⟨_, rfl, ⟨_, hs.sq⟩, hq ρ1 H1 e1 r1 _ (feeds_tup hs hd)⟩⟩)
    · cases hs
      exact .inl (.inl ⟨ρ, M, env, r, he, _, _, h1, fun ρ1 H1 e1 r1 v dv => by
        cases dv with
        | rol hs hd => exact ⟨_, rfl, ⟨_, hs.sq⟩, hq ρ1 H1 e1 r1 _ (feeds_rol hs hd)⟩⟩)
    · split at hs
      · rename_i hm
        cases hs
        exact .inl (.inl ⟨ρ, M, env, r, he, _, _, h1, fun ρ1 H1 e1 r1 v dv => by
          obtain ⟨a, vs, rfl, a1, a2, a3⟩ := r1.lst hm dv
          exact ⟨_, rfl, ⟨_, SqL.of a2⟩, hq ρ1 H1 e1 r1 _ (feeds_lst a1)⟩⟩)
      · cases hs
    · cases hs
      exact .inr ⟨ρ, M, env, r, he, _, _, h1, fun ρ1 H1 e1 r1 v dv => by
        cases dv
        exact ⟨_, rfl, hq ρ1 H1 e1 r1 _ feeds_str⟩⟩
    · cases hs
  · cases hf
/-- range(n), range(a, b) -/
def srcR (lo : Int) (n : Nat) : Src := ⟨n, fun i _ => if i < n then some (some (.int (lo + i))) else some none⟩
theorem feeds_rng {K : Frg} {ρ0 : List Addr} {H0 : Hp} {lo : Int} {n : Nat} : Feeds K ct ρ0 H0 (Itr lo n) (srcR lo n).stp := by
  intro i ρ M H _ r
  show (match (if i < n then some (some (Dv.int (lo + i))) else some none) with | some (some d) => _ | some none => _ | none => _)
  by_cases hi : i < n
  · rw [if_pos hi]
    refine ⟨hi, fun y H' hy => ?_⟩
    obtain ⟨e, ey⟩ := hy
    subst e; subst ey
    exact ⟨.refl, r, .int _⟩
  · rw [if_neg hi]
    exact Nat.le_of_not_lt hi
def fRng1 (f : FE) : FI := fun env M => bnd (f env M) fun d M1 => match d with
  | .int j => if -(2 ^ 62) ≤ j ∧ j < 2 ^ 62 then some (srcR 0 j.toNat, M1) else none
  | _ => none
def fRng2 (f g : FE) : FI := fun env M => bnd (f env M) fun d M1 => bnd (g env M1) fun d2 M2 => match d, d2 with
  | .int i, .int j => if -(2 ^ 62) ≤ i ∧ i < 2 ^ 62 ∧ -(2 ^ 62) ≤ j ∧ j < 2 ^ 62 then some (srcR i (j - i).toNat, M2) else none
  | _, _ => none
theorem si_range1 (hg : Gl X "range") (hm : X.mg "range" = none) (ha : SE X ct a fa) (hs : starEach [a] X.env = [(false, eval a X.env)] := by rfl) : SI X ct tg (.Call (.Name "range" p) [a] [] pos) (fRng1 fa) :=
  PI.imp (pi_range1 hg hm (sa_cons ha sa_nil hs) hs) fun σ H R ⟨ρ, M, env, r, he, src, M', hf, hq⟩ => by
    obtain ⟨d, M1, h1, hf⟩ := bnd_some hf
    refine ⟨ρ, M, env, r, he, [d], M1, by show bnd (fa env M) _ = _; rw [h1]; rfl, fun ρ1 H1 e1 r1 vs dvs => ?_⟩
    split at hf
    · split at hf
      · rename_i hb
        cases hf
        obtain ⟨v, rfl, d1⟩ := dvs_one dvs
        cases d1
        exact ⟨_, rfl, hb.1, hb.2, hq ρ1 H1 e1 r1 _ feeds_rng⟩
      · cases hf
    · cases hf
theorem si_range2 (hg : Gl X "range") (hm : X.mg "range" = none) (ha : SE X ct a fa) (hb : SE X ct b fb) (hs : starEach [a, b] X.env = [(false, eval a X.env), (false, eval b X.env)] := by rfl) (hs2 : starEach [b] X.env = [(false, eval b X.env)] := by rfl) : SI X ct tg (.Call (.Name "range" p) [a, b] [] pos) (fRng2 fa fb) :=
  PI.imp (pi_range2 hg hm (sa_cons ha (sa_cons hb sa_nil hs2) (by rw [hs, hs2])) hs hs2) fun σ H R ⟨ρ, M, env, r, he, src, M', hf, hq⟩ => by
    obtain ⟨d, M1, h1, hf⟩ := bnd_some hf
    obtain ⟨d2, M2, h2, hf⟩ := bnd_some hf
    refine ⟨ρ, M, env, r, he, [d, d2], M2, by show bnd (fa env M) _ = _; rw [h1]; show bnd (bnd (fb env M1) _) _ = _; rw [h2]; rfl, fun ρ1 H1 e1 r1 vs dvs => ?_⟩
    split at hf
    · split at hf
      · rename_i hb
        cases hf
        obtain ⟨v, u, rfl, d1, d2⟩ := dvs_two dvs
        cases d1; cases d2
        exact ⟨_, _, rfl, hb, hq ρ1 H1 e1 r1 _ feeds_rng⟩
      · cases hf
    · cases hf

/-! ## for -/
variable {g : FG} {f : FS} {body : List Stmt} {ws : List Nat}
def loopF (it : Stp) (g : FG) (f : FS) : Nat → Nat → FS
  | 0, i => fun env M => match it i M with
    | some none => some (.nx env, M)
    | _ => none
  | k + 1, i => fun env M => match it i M with
    | some none => some (.nx env, M)
    | some (some d) => bnd (g d env M) fun e1 M1 => bnd (f e1 M1) fun fl M2 => match fl with
      | .nx e2 => loopF it g f k (i + 1) e2 M2
      | .ct e2 => loopF it g f k (i + 1) e2 M2
      | .bk e2 => some (.nx e2, M2)
      | .rt d => some (.rt d, M2)
    | none => none
def fFor (fi : FI) (g : FG) (f : FS) : FS := fun env M => bnd (fi env M) fun src M1 => loopF src.stp g f src.many 0 env M1
theorem ss_for (hp : PassesOwn (model X.prog X.w) X.A X.env X.xe) (hc : X.calm = true) (hi : SI X ct tg iter fi) (hg : SG X ct ws tg g) (hb : SSs X ct body f)
    (hs : ∀ x, foldedSetIterable iter X.env x = pure x := by intro _; rfl) : SS X ct (.For tg iter body [] pos) (fFor fi g f) := by
  refine PS.imp (ps_for hp hc hi hg hb hs) fun D σ H ⟨ρ, M, env, r, he, fl, M', hf, hq⟩ => ?_
  obtain ⟨src, M1, h1, hf⟩ := bnd_some hf
  refine ⟨ρ, M, env, r, he, src, M1, h1, fun ρ0 H0 e0 r0 J hJ => ?_⟩
  refine ⟨fun i m σ H => ∃ ρ M env, Ext X.K ρ0 H0 ρ H ∧ Rl X.K ct ρ M H ∧ EnOk X.K ρ H env σ ∧ ∃ fl M', loopF src.stp g f m i env M = some (fl, M') ∧ Aft X.K ct ρ H M' fun ρ' H' => endF X.K D fl ρ' H',
    ⟨src.many, ρ0, M1, env, .refl, r0, he.mono e0, fl, M', hf, hq.later e0⟩, ?_⟩
  rintro i m σ H ⟨ρ, M, env, x0, r, he, fl, M', hf, hq⟩
  have hj := hJ i ρ M H x0 r
  cases q : src.stp i M with
  | none =>
    cases m with
    | zero => (simp only [loopF, q] at hf; try cases hf)
    | succ m => (simp only [loopF, q] at hf; try cases hf)
  | some o =>
    rw [q] at hj
    cases o with
    | none =>
      have e : some (Fl.nx env, M) = some (fl, M') := by
        cases m with
        | zero => simpa only [loopF, q] using hf
        | succ m => simpa only [loopF, q] using hf
      cases e
      exact .inl ⟨hj, hq ρ H .refl r σ he⟩
    | some d =>
      cases m with
      | zero => (simp only [loopF, q] at hf; try cases hf)
      | succ m =>
        simp only [loopF, q] at hf
        obtain ⟨e1, N1, g1, hf⟩ := bnd_some hf
        obtain ⟨f1, N2, g2, hf⟩ := bnd_some hf
        refine .inr ⟨hj.1, fun σ' H' => ∃ ρ M env, Ext X.K ρ0 H0 ρ H' ∧ Rl X.K ct ρ M H' ∧ EnOk X.K ρ H' env σ' ∧ ∃ fl M', loopF src.stp g f m (i + 1) env M = some (fl, M') ∧ Aft X.K ct ρ H' M' fun ρ' H' => endF X.K D fl ρ' H',
          fun σ' H' n => ⟨m, Nat.lt_succ_self m, n⟩, fun x H' hy => ?_⟩
        obtain ⟨y1, y2, y3⟩ := hj.2 x H' hy
        refine ⟨ρ, M, env, d, y2, he.mono y1, y3, e1, N1, g1, fun ρ1 H1 x1 r1 σ1 en1 _ => ⟨ρ1, N1, e1, r1, en1, f1, N2, g2, fun ρ2 H2 x2 r2 => ?_⟩⟩
        have xx := (y1.trans x1).trans x2
        cases f1 with
        | nx e3 => exact fun σ2 en2 => ⟨ρ2, N2, e3, x0.trans xx, r2, en2, fl, M', hf, hq.later xx⟩
        | ct e3 => exact fun σ2 en2 => ⟨ρ2, N2, e3, x0.trans xx, r2, en2, fl, M', hf, hq.later xx⟩
        | bk e3 => cases hf; exact fun σ2 en2 => hq ρ2 H2 xx r2 σ2 en2
        | rt d => cases hf; exact hq ρ2 H2 xx r2
/-! ## comprehensions, one clause -/
def wipeE (env : En) : List Nat → En
  | [] => env
  | v :: vs => (wipeE env vs).set v none
theorem EnOk.forget {K : Frg} {ρ : List Addr} {H : Hp} {env : En} {σ : L2.St} (h : EnOk K ρ H env σ) (i : Nat) : EnOk K ρ H (env.set i none) (σ.set i none) := by
  refine ⟨by simp [h.1], fun j x q => ?_⟩
  by_cases hij : i = j
  · subst hij
    rw [List.getElem?_set] at q
    split at q
    · split at q
      · cases q
      · cases q
    · exact absurd rfl (by assumption)
  · rw [List.getElem?_set_ne hij] at q
    obtain ⟨u, h1, h2⟩ := h.2 j x q
    exact ⟨u, by rw [List.getElem?_set_ne hij]; exact h1, h2⟩
theorem EnOk.wipe {K : Frg} {ρ : List Addr} {H : Hp} {env : En} {σ : L2.St} (h : EnOk K ρ H env σ) : ∀ vs : List Nat, EnOk K ρ H (wipeE env vs) (L2.wipe σ vs)
  | [] => h
  | v :: vs => (EnOk.wipe h vs).forget v
theorem getElem?_wipe (σ : L2.St) (i : Nat) : ∀ vs : List Nat, (L2.wipe σ vs)[i]? = if i ∈ vs then (if i < σ.length then some none else none) else σ[i]?
  | [] => by simp [L2.wipe]
  | v :: vs => by
    unfold L2.wipe
    rw [List.getElem?_set, getElem?_wipe σ i vs, L2.wipe_length]
    by_cases hv : v = i
    · subst hv; simp
    · simp [hv, Ne.symm hv]
theorem wipe_eq {vs : List Nat} {σ σ' : L2.St} (h : OutEq vs (L2.wipe σ vs) σ') : L2.wipe σ' vs = L2.wipe σ vs := by
  apply List.ext_getElem?
  intro i
  have hl : σ'.length = σ.length := by rw [h.1, L2.wipe_length]
  rw [getElem?_wipe, getElem?_wipe, hl]
  by_cases hi : i ∈ vs
  · simp [hi]
  · rw [if_neg hi, if_neg hi, h.2 i hi, getElem?_wipe, if_neg hi]
/-- the turns: the new list stands at cell n -/
def compF (it : Stp) (g : FG) (ft : FT) (fe : FE) (e0 : En) (n : Nat) : Nat → Nat → Mem → Option Mem
  | 0, i, M => match it i M with
    | some none => some M
    | _ => none
  | k + 1, i, M => match it i M with
    | some none => some M
    | some (some d) => match g d e0 M with
      | some (e1, M1) => match ft e1 M1 with
        | some (true, M2) => match fe e1 M2 with
          | some (y, M3) => match M3[n]? with
            | some (.lst acc) => if acc.length < sizeLine then compF it g ft fe e0 n k (i + 1) (M3.set n (.lst (acc ++ [y]))) else none
            | _ => none
          | none => none
        | some (false, M2) => compF it g ft fe e0 n k (i + 1) M2
        | none => none
      | none => none
    | none => none
def fComp (fi : FI) (vs : List Nat) (g : FG) (ft : FT) (fe : FE) : FE := fun env M => bnd (fi env M) fun src M1 =>
  match compF src.stp g ft fe (wipeE env vs) M1.length src.many 0 (M1 ++ [.lst []]) with
  | some M2 => some (.loc M1.length, M2)
  | none => none
def fYes : FT := fun _ M => some (true, M)
abbrev STs (X : Cx) (ct : Ct) (ifs : List Expr) (f : FT) : Prop := PTs X ifs (tT X.K ct f)
theorem PTs.imp {ifs : List Expr} {t t' : TT} (h : PTs X ifs t) (k : ∀ σ H Q, t' σ H Q → t σ H Q) : PTs X ifs t' := ⟨fun pins s σ H Q I w => h.run pins s σ H Q I (k σ H Q w)⟩
theorem sts_nil : STs X ct [] fYes := PTs.imp pts_nil fun σ H Q ⟨ρ, M, env, r, he, b, M', hf, hq⟩ => by
  cases hf
  exact hq ρ H .refl r
theorem sts_one {c : Expr} {ft : FT} (h : ST X ct c ft) : STs X ct [c] ft := pts_one h
/-- a comprehension's block -/
abbrev Cx.cb (X : Cx) (scope : Scope) (s : Shared) (H : Hp) (C : Addr) (cl : List (Str × Addr)) (fp : List Addr) : Cx := X.blk s H scope (compEnvC scope cl C X.env) fp
theorem lc_imp {vs : List Nat} {ft : FT} {σ : L2.St} {H : Hp} {Q : VK} (w : tE X.K ct (fComp fi vs g ft fe) σ H Q) : tLc (tI X.K ct fi) (tG X.K ct vs g) (tT X.K ct ft) (tE X.K ct fe) vs σ H Q := by
  obtain ⟨ρ, M, env, r, he, d, M', hf, hq⟩ := w
  obtain ⟨src, M1, h1, hf⟩ := bnd_some hf
  split at hf
  · rename_i M2 hc
    cases hf
    refine ⟨ρ, M, env, r, he, src, M1, h1, fun ρ0 H0 e0 r0 J hJ D hD => ?_⟩
    obtain ⟨rN, xN, aN⟩ := r0.newL hD (.nil : DVs X.K ρ0 H0 [] [])
    refine ⟨fun i m H => ∃ ρ M, Ext X.K ρ0 H0 ρ H ∧ Rl X.K ct ρ M H ∧ ρ[M1.length]? = some D ∧ compF src.stp g ft fe (wipeE env vs) M1.length m i M = some M' ∧ Aft X.K ct ρ H M' fun ρ' H' => ∀ v, DV X.K ρ' H' (.loc M1.length) v → Q v H',
      ⟨src.many, ρ0 ++ [D], _, xN, rN, aN, hc, (hq.later e0).later xN⟩, ?_⟩
    rintro i m H ⟨ρ, M, x0, r, aD, hf, hq⟩
    have hj := hJ i ρ M H x0 r
    have he' := ((he.mono e0).mono x0).wipe vs
    cases q : src.stp i M with
    | none =>
      cases m with
      | zero => rw [compF, q] at hf; cases hf
      | succ m => rw [compF, q] at hf; cases hf
    | some o =>
      rw [q] at hj
      cases o with
      | none =>
        have e : some M = some M' := by
          cases m with
          | zero => rw [compF, q] at hf; exact hf
          | succ m => rw [compF, q] at hf; exact hf
        cases e
        exact .inl ⟨hj, hq ρ H .refl r _ (.loc aD)⟩
      | some d =>
        cases m with
        | zero => rw [compF, q] at hf; cases hf
        | succ m =>
          rw [compF, q] at hf
          dsimp only at hf
          refine .inr ⟨hj.1, fun H' => ∃ ρ M, Ext X.K ρ0 H0 ρ H' ∧ Rl X.K ct ρ M H' ∧ ρ[M1.length]? = some D ∧ compF src.stp g ft fe (wipeE env vs) M1.length m (i + 1) M = some M' ∧ Aft X.K ct ρ H' M' fun ρ' H' => ∀ v, DV X.K ρ' H' (.loc M1.length) v → Q v H',
            fun H' n => ⟨m, Nat.lt_succ_self m, n⟩, fun x H' hy => ?_⟩
          obtain ⟨y1, y2, y3⟩ := hj.2 x H' hy
          split at hf
          · rename_i e1 N1 g1
            refine ⟨ρ, M, wipeE env vs, d, y2, he'.mono y1, y3, e1, N1, g1, fun ρ1 H1 x1 r1 σ1 en1 oe => ⟨wipe_eq oe, ?_⟩⟩
            split at hf
            · rename_i N2 g2
              refine ⟨ρ1, N1, e1, r1, en1, true, N2, g2, fun ρ2 H2 x2 r2 => ?_⟩
              dsimp only
              rw [if_pos rfl]
              split at hf
              · rename_i y N3 g3
                refine ⟨ρ2, N2, e1, r2, en1.mono x2, y, N3, g3, fun ρ3 H3 x3 r3 v dv => ?_⟩
                split at hf
                · rename_i acc hm
                  split at hf
                  · rename_i hl
                    have xx := ((y1.trans x1).trans x2).trans x3
                    have aD3 := xx.pre _ _ aD
                    obtain ⟨b, ws, eb, b1, b2, b3⟩ := r3.lst hm (.loc aD3)
                    cases eb
                    obtain ⟨r4, x4⟩ := r3.putL aD3 b2 (b3.append (.cons dv .nil))
                    exact ⟨ws, b2, by rw [← b3.length]; exact hl, ρ3, _, (x0.trans xx).trans x4, r4, aD3, hf, hq.later (xx.trans x4)⟩
                  · cases hf
                · cases hf
              · cases hf
            · rename_i N2 g2
              refine ⟨ρ1, N1, e1, r1, en1, false, N2, g2, fun ρ2 H2 x2 r2 => ?_⟩
              dsimp only
              rw [if_neg (by decide)]
              have xx := (y1.trans x1).trans x2
              exact ⟨ρ2, N2, x0.trans xx, r2, xx.pre _ _ aD, hf, hq.later xx⟩
            · cases hf
          · cases hf
  · cases hf
theorem se_comp {elt : Expr} {ifs : List Expr} {scope : Scope} {own : List (Str × Nat)} {ft : FT} (hc : X.calm = true) (hN : X.N.Nodup) (hi : SI X ct tg iter fi) (ok : BlkOk X.N X.env.scope scope own)
    (hg : ∀ s H C cl fp, SG (Cx.cb X scope s H C cl fp) ct (own.map (·.2)) tg g) (ht : ∀ s H C cl fp, STs (Cx.cb X scope s H C cl fp) ct ifs ft)
    (he : ∀ s H C cl fp, SE (Cx.cb X scope s H C cl fp) ct elt fe) (hs : ∀ x, foldedSetIterable iter X.env x = pure x := by intro _; rfl) : SE X ct (.ListComp elt [⟨tg, iter, ifs, 0⟩] scope pos) (fComp fi (own.map (·.2)) g ft fe) :=
  PE.imp (pe_lc hc hN hi ok hg ht he hs) fun _ _ _ w => lc_imp w
/-- name = [..] -/
theorem ss_setLc {i : Nat} {y : Str} {py : Pos} {elt : Expr} {ifs : List Expr} {scope : Scope} {own : List (Str × Nat)} {ft : FT} {spos : Pos} (hc : X.calm = true) (hN : X.N.Nodup) (hy : X.N[i]? = some y) (hyl : X.env.scope.names.lookup y = some .local)
    (hsw : swapsWith (.ListComp elt [⟨tg, iter, ifs, 0⟩] scope pos) (some (.Name y py)) spos.line X.env = pure true) (hi : SI X ct tg iter fi) (ok : BlkOk X.N X.env.scope scope own)
    (hg : ∀ s H C cl fp, SG (Cx.cb X scope s H C cl fp) ct (own.map (·.2)) tg g) (ht : ∀ s H C cl fp, STs (Cx.cb X scope s H C cl fp) ct ifs ft)
    (he : ∀ s H C cl fp, SE (Cx.cb X scope s H C cl fp) ct elt fe) (hs : ∀ x, foldedSetIterable iter X.env x = pure x := by intro _; rfl) :
    SS X ct (.Assign [.Name y py] (.ListComp elt [⟨tg, iter, ifs, 0⟩] scope pos) spos) (fSet i (fComp fi (own.map (·.2)) g ft fe)) :=
  PS.imp (ps_setLc hc hN hy hyl hsw hi ok hg ht he hs) fun D σ H ⟨ρ, M, env, r, hen, fl, M', hf, hq⟩ => by
    obtain ⟨d, M1, h1, hf⟩ := bnd_some hf
    cases hf
    exact lc_imp ⟨ρ, M, env, r, hen, d, _, h1, fun ρ1 H1 e1 r1 v dv => hq ρ1 H1 e1 r1 _ ((hen.mono e1).set i dv)⟩
end
end Zl

/-! text Z9 -/
namespace Zl
open PySem L2 PySem.Spec PyProof.Rows

/-! ## Defs -/
/-- a def of which no error leaves, called where no repr runs -/
structure FnG (P : Program) (w : World) (K : Frg) (mg : Str → Option Value) (base : Heap) (k : Nat) (f : Addr) (fd : FuncData) (ps : List Str) (sp : Sp) : Prop where
  len : ∀ vs H Q E, sp vs H Q E → vs.length = ps.length
  run : ∀ (A : Around) (outer : List Env) (s : Shared) (H : Hp) (args : Args) (us : List Value) (vs : List V) (Q : VK) (E : XK), Room k A → A.guards = some [] → Env0 P w K mg base A outer s H → BindsTo s fd args (ps.zip us) → Vals vs us → sp vs H Q E →
    codeAny (model P w) A (.call (.ref f) args) (CR CX0 outer P w H s Q E) s
theorem FnG.mono {P : Program} {w : World} {K : Frg} {mg : Str → Option Value} {base : Heap} {j k : Nat} {f : Addr} {fd : FuncData} {ps : List Str} {sp : Sp} (F : FnG P w K mg base j f fd ps sp) (h : j ≤ k) : FnG P w K mg base k f fd ps sp :=
  ⟨F.len, fun A outer s H args us vs Q E hr => F.run A outer s H args us vs Q E (hr.mono h)⟩
abbrev FF := List Dv → Mem → Rz
def spF (K : Frg) (ct : Ct) (F : FF) (n : Nat) : Sp := fun vs H Q _ => vs.length = n ∧ ∃ ρ M ds, Rl K ct ρ M H ∧ DVs K ρ H ds vs ∧ ∃ d M', F ds M = some (d, M') ∧ Aft K ct ρ H M' fun ρ' H' => ∀ v, DV K ρ' H' d v → Q v H'
/-- the def's value by its body; n names in all -/
def callF (n : Nat) (f : FS) : FF := fun ds M => match f (ds.map some ++ List.replicate (n - ds.length) none) M with
  | some (.rt d, M') => some (d, M')
  | some (.nx _, M') => some (.non, M')
  | _ => none
theorem enOk_start {K : Frg} {ρ : List Addr} {H : Hp} {N : List Str} {ds : List Dv} {vs : List V} (h : DVs K ρ H ds vs) : EnOk K ρ H (ds.map some ++ List.replicate (N.length - ds.length) none) (L2.start N vs) := by
  have hl := h.length
  refine ⟨by simp [L2.start, hl], fun i d q => ?_⟩
  by_cases hi : i < ds.length
  · rw [List.getElem?_append_left (by simpa using hi), List.getElem?_map] at q
    have e : ds[i]? = some d := by
      cases z : ds[i]? with
      | none => rw [z] at q; simp at q
      | some y => rw [z] at q; simp at q; rw [q]
    obtain ⟨v, h1, h2⟩ := h.get e
    refine ⟨v, ?_, h2⟩
    unfold L2.start
    rw [List.getElem?_append_left (by rw [List.length_map, ← hl]; exact hi), List.getElem?_map, h1]; rfl
  · rw [List.getElem?_append_right (by simpa using hi), List.getElem?_replicate] at q
    split at q <;> cases q
section
variable {P : Program} {w : World} {K : Frg} {mg : Str → Option Value} {base : Heap} {ct : Ct}
/-- THE RULE: a def by its body -/
theorem fn_sim {x qual : Str} {st : Stmt} {f : Addr} {fd : FuncData} {N ps : List Str} {k : Nat} {b : FS} (F : Fun K x qual st f fd) (S : FnScope N ps (defScope st))
    (hbody : ∀ (cdv : Value) (A : Around) (outer : List Env) (s : Shared) (H : Hp) (E : XK), Room k (A.deeper (envOfC qual (defScope st) s.heap.objs.size f cdv)) → (A.deeper (envOfC qual (defScope st) s.heap.objs.size f cdv)).guards = some [] →
      SSs (cxOf CX0 P w K mg base N qual (defScope st) f cdv A outer s H E).nox ct (defBody st) b) : FnG P w K mg base (k + 1) f fd ps (spF K ct (callF N.length b) ps.length) := by
  obtain ⟨oc, od, kV, doc, pm, an, cdv, ct', osl, rfl, lk, hcd⟩ := F.ex
  refine ⟨fun vs H Q E h => h.1, fun A outer s H args us vs Q E hr hgd e0 hb r hsp => ?_⟩
  obtain ⟨hl, ρ, M, ds, rl, dv, d, M', hf, hq⟩ := hsp
  have KX : K.In s.heap := e0.mod.kin.keeps fun b o e => (e0.bs b o e).1
  have lim : s.heap.NoLimit := e0.mod.nolimit.keeps fun b o e => (e0.bs b o e).1
  have hkind : ∀ y ∈ ps.zip us, (defScope st).names.lookup y.1 = some .local ∨ ((defScope st).names.lookup y.1 = some .cell ∧ ((cellsFrom (s.heap.objs.size + 1) (defScope st).names []).lookup y.1).isSome = true) := by
    rintro ⟨n, v⟩ hy
    rcases S.par n (List.of_mem_zip hy).1 with z | z
    · exact .inl z
    · exact .inr ⟨z, PySem.W.cellsFrom_some _ _ _ (.inl z)⟩
  refine codeAny_call_function hr.depth (KX _ _ lk) rfl S.co S.gen rfl (PySem.W.codeRec_of KX hcd) (hb _ _ _ _ ?_)
  refine wpAny_newFunctionEnv_cells S.kind hkind fun env hen s1 x1 => ?_
  subst hen
  refine ⟨lim.keeps x1.toInCall.keep, codeAny_func ?_⟩
  have B := hbody cdv A outer s H E (hr.deeper _) hgd
  have I : Inv (cxOf CX0 P w K mg base N qual (defScope st) f cdv A outer s H E) [] (L2.start N vs) H s1 := inv_start S hr.hd e0 hl r x1
  unfold callF at hf
  have hw : ∃ fl, b (ds.map some ++ List.replicate (N.length - ds.length) none) M = some (fl, M') ∧ ((fl = .rt d) ∨ ∃ e, fl = .nx e ∧ d = .non) := by
    split at hf
    · rename_i z
      cases hf
      exact ⟨_, z, .inl rfl⟩
    · rename_i z
      cases hf
      exact ⟨_, z, .inr ⟨_, rfl, rfl⟩⟩
    · cases hf
  obtain ⟨fl, hb1, hfl⟩ := hw
  have Z := (PSs.nox B).run [] s1 (L2.start N vs) H { nx := fun _ H' => Q .non H', rt := Q } I ⟨ρ, M, _, rl, enOk_start dv, fl, M', hb1, fun ρ' H' e' r' => by
    rcases hfl with rfl | ⟨e, rfl, rfl⟩
    · exact fun v hv => hq ρ' H' e' r' v hv
    · exact fun σ _ => hq ρ' H' e' r' _ .non⟩
  refine wpAny_mono Z (fun fl s' hs => ?_) fun e s' hs => hs
  have fin : ∀ {σ' : L2.St} {H' : Hp} {v : V} {u : Value}, Inv (cxOf CX0 P w K mg base N qual (defScope st) f cdv A outer s H E) [] σ' H' s' → RelV v u → Q v H' → CE outer P w H s Q u s' :=
    fun {σ' H' v u} J rv q => ⟨v, H', J.os, J.bare, J.base, J.hok, rv, q⟩
  cases fl with
  | ret u =>
    obtain ⟨v, σ', H', J, rv, q⟩ := hs
    exact fin J rv q
  | next =>
    obtain ⟨σ', H', J, q⟩ := hs
    exact fin (v := V.non) (u := Value.none) J rfl q
  | brk => exact False.elim hs.choose_spec.choose_spec.2
  | cont => exact False.elim hs.choose_spec.choose_spec.2
end
section
variable {X : Cx} {ct : Ct} {k : Nat} {f C : Addr} {fd : FuncData} {ps : List Str} {F : FF} {x m : Str} {p pos apos : Pos} {e o v' : Expr} {es : List Expr} {fr : FA} {fo fv : FE} {c : Nat}
abbrev SF (X : Cx) (ct : Ct) (k : Nat) (f : Addr) (fd : FuncData) (ps : List Str) (F : FF) : Prop := FnG X.prog X.w X.K X.mg X.base k f fd ps (spF X.K ct F ps.length)
/-- the callee runs -/
theorem run_fnG {pins : List (Addr × Obj)} {σ : L2.St} {H : Hp} {s : Shared} {Q : VK} {us us' : List Value} {kw : List (Str × Value)} {vs : List V} {sp : Sp} (G : FnG X.prog X.w X.K X.mg X.base k f fd ps sp) (hr : Room k X.A) (hgd : X.A.guards = some [])
    (I : Inv X pins σ H s) (bt : BindsTo s fd ⟨us, kw⟩ (ps.zip us')) (r : Vals vs us') (h : sp vs H Q E0) : wpAny (model X.prog X.w) X.A (call (.ref f) us kw) (EP X pins σ Q) X.xe s := by
  refine wpAny_call (codeAny_mono (G.run X.A X.stack s H ⟨us, kw⟩ us' vs Q E0 hr hgd I.env0 bt r h) fun z s' hq => ?_)
  match z, hq with
  | .ok (.ret u), hq => exact I.after hq
theorem spF_use {ρ ρ1 : List Addr} {M1 M' : Mem} {H H1 : Hp} {d : Dv} {ds : List Dv} {vs : List V} {n : Nat} {Q : VK} (hn : ds.length = n) (e1 : Ext X.K ρ H ρ1 H1) (r1 : Rl X.K ct ρ1 M1 H1) (dvs : DVs X.K ρ1 H1 ds vs) (hf : F ds M1 = some (d, M'))
    (hq : Aft X.K ct ρ H M' fun ρ' H' => ∀ v, DV X.K ρ' H' d v → Q v H') : spF X.K ct F n vs H1 Q E0 :=
  ⟨by rw [← dvs.length]; exact hn, ρ1, M1, ds, r1, dvs, d, M', hf, hq.later e1⟩
/-- f(e, ..) -/
def fCall (n : Nat) (F : FF) (fr : FA) : FE := fun env M => bnd (fr env M) fun ds M1 => if ds.length = n then F ds M1 else none
theorem se_call (G : SF X ct k f fd ps F) (hr : Room k X.A) (hgd : X.A.guards = some []) (hg : Gl X x) (hm : X.mg x = some (.ref f)) (hk : PySem.W.keepIn X.K (.ref f) = true) (hb : Binds X.K fd ps []) (ha : SA X ct (e :: es) fr)
    (hdb : (x == ("__debug__" : Str)) = false := by decide) (he : starEach (e :: es) X.env = (false, eval e X.env) :: starEach es X.env := by rfl)
    (hpl : (backTo pos (starEach es X.env)).any (·.1) = false := by rfl) : SE X ct (.Call (.Name x p) (e :: es) [] pos) (fCall ps.length F fr) := by
  refine ⟨fun pins s σ H Q I w => ?_⟩
  obtain ⟨ρ, M, env, r, hen, d, M', hf, hq⟩ := w
  obtain ⟨ds, M1, h1, hf⟩ := bnd_some hf
  split at hf
  · rename_i hn
    refine wpAny_Call_Name_kw (ld_glob I hg hm ?_ hdb)
    refine PySem.W.callWith_K (h₀ := X.base) I.ok.mod.kin hk (thn (ha.run pos pins s σ H (fun vs H1 => ∃ ρ1, Ext X.K ρ H ρ1 H1 ∧ Rl X.K ct ρ1 M1 H1 ∧ DVs X.K ρ1 H1 ds vs) I ⟨ρ, M, env, r, hen, ds, M1, h1, fun ρ1 H1 e1 r1 vs dvs => ⟨ρ1, e1, r1, dvs⟩⟩) fun us s1 z => ?_) he hpl
    obtain ⟨vs, H1, I1, rv, ρ1, e1, r1, dvs⟩ := z
    refine ⟨I1.kIn, run_fnG G hr hgd I1 (hb s1 us I1.kIn (by rw [List.append_nil, ← rv.length, ← dvs.length]; exact hn)) (by rw [List.append_nil]; exact rv) (spF_use hn e1 r1 dvs hf hq)⟩
  · cases hf
theorem se_call0 (G : SF X ct k f fd ps F) (hr : Room k X.A) (hgd : X.A.guards = some []) (hg : Gl X x) (hm : X.mg x = some (.ref f)) (hk : PySem.W.keepIn X.K (.ref f) = true) (hb : Binds X.K fd ps [])
    (hdb : (x == ("__debug__" : Str)) = false := by decide) : SE X ct (.Call (.Name x p) [] [] pos) (fCall ps.length F fNil) := by
  refine ⟨fun pins s σ H Q I w => ?_⟩
  obtain ⟨ρ, M, env, r, hen, d, M', hf, hq⟩ := w
  obtain ⟨ds, M1, h1, hf⟩ := bnd_some hf
  cases h1
  split at hf
  · rename_i hn
    refine wpAny_Call_Name_kw (ld_glob I hg hm ?_ hdb)
    exact PySem.W.callWith_K0 I.kIn hk (run_fnG (us := []) (us' := []) (vs := []) G hr hgd I (hb s [] I.kIn (by simpa using hn)) .nil (spF_use hn .refl r .nil hf hq))
  · cases hf
/-! ### keywords -/
abbrev SK (X : Cx) (ct : Ct) (kws : List Keyword) (f : FA) : Prop := PK X kws (tA X.K ct f)
theorem PK.imp {kws : List Keyword} {t t' : TA} (h : PK X kws t) (q : ∀ σ H Q, t' σ H Q → t σ H Q) : PK X kws t' := ⟨fun pos pins s σ H Q I w => h.run pos pins s σ H Q I (q σ H Q w)⟩
theorem sk_nil : SK X ct [] fNil := PK.imp pk_nil fun σ H Q ⟨ρ, M, env, r, he, d, M', hf, hq⟩ => by
  cases hf
  exact hq ρ H .refl r _ .nil
theorem sk_cons {kws : List Keyword} {nm : Option Str} {kpos : Pos} (h : SE X ct e fo) (q : SK X ct kws fr) : SK X ct (⟨nm, e, kpos⟩ :: kws) (fCons fo fr) :=
  PK.imp (pk_cons h q) fun σ H Q ⟨ρ, M, env, r, he, d, M', hf, hq⟩ => by
    obtain ⟨x, M1, h1, hf⟩ := bnd_some hf
    obtain ⟨ys, M2, h2, hf⟩ := bnd_some hf
    cases hf
    exact ⟨ρ, M, env, r, he, x, M1, h1, fun ρ1 H1 e1 r1 v dv => ⟨ρ1, M1, env, r1, he.mono e1, ys, _, h2, fun ρ2 H2 e2 r2 vs dvs => hq ρ2 H2 (e1.trans e2) r2 _ (.cons (dv.mono e2) dvs)⟩⟩
def pick {α : Type} (is : List Nat) (xs : List α) : List α := is.filterMap fun i => xs[i]?
theorem pick_vals {vs : List V} {us : List Value} (h : Vals vs us) : ∀ is : List Nat, Vals (pick is vs) (pick is us)
  | [] => .nil
  | i :: is => by
    unfold pick
    rw [List.filterMap_cons, List.filterMap_cons]
    cases q : vs[i]? with
    | none => rw [h.none_of q]; exact pick_vals h is
    | some v =>
      obtain ⟨u, h1, h2⟩ := h.get q
      rw [h1]; exact .cons h2 (pick_vals h is)
theorem pick_dvs {K : Frg} {ρ : List Addr} {H : Hp} {ds : List Dv} {vs : List V} (h : DVs K ρ H ds vs) : ∀ is : List Nat, DVs K ρ H (pick is ds) (pick is vs)
  | [] => .nil
  | i :: is => by
    unfold pick
    rw [List.filterMap_cons, List.filterMap_cons]
    cases q : ds[i]? with
    | none =>
      have z : vs[i]? = none := List.getElem?_eq_none_iff.mpr (by rw [← h.length]; exact List.getElem?_eq_none_iff.mp q)
      rw [z]; exact pick_dvs h is
    | some v =>
      obtain ⟨u, h1, h2⟩ := h.get q
      rw [h1]; exact .cons h2 (pick_dvs h is)
/-- how a call by keywords alone binds: parameter j gets the keyword is[j] -/
def KwB (K : Frg) (fd : FuncData) (ps ks : List Str) (is : List Nat) : Prop := ∀ (s : Shared) (ws : List Value), K.In s.heap → ws.length = ks.length → BindsTo s fd ⟨[], ks.zip ws⟩ (ps.zip (pick is ws))
def fCallK (n nk : Nat) (is : List Nat) (F : FF) (fr : FA) : FE := fun env M => bnd (fr env M) fun ds M1 => if ds.length = nk ∧ (pick is ds).length = n then F (pick is ds) M1 else none
theorem se_callK {kws : List Keyword} {ks : List Str} {is : List Nat} (G : SF X ct k f fd ps F) (hr : Room k X.A) (hgd : X.A.guards = some []) (hg : Gl X x) (hm : X.mg x = some (.ref f)) (hk : PySem.W.keepIn X.K (.ref f) = true) (hb : KwB X.K fd ps ks is) (ha : SK X ct kws fr)
    (hall : (backToKw pos (keywordEach kws X.env)).all (·.1.isSome) = true := by rfl) (hks : (backToKw pos (keywordEach kws X.env)).filterMap (·.1) = ks := by rfl) (hdb : (x == ("__debug__" : Str)) = false := by decide)
    (hpl : ((backTo pos (starEach [] X.env)).any (·.1) || (backToKw pos (keywordEach kws X.env)).any (·.1.isNone)) = false := by rfl) : SE X ct (.Call (.Name x p) [] kws pos) (fCallK ps.length ks.length is F fr) := by
  refine ⟨fun pins s σ H Q I w => ?_⟩
  obtain ⟨ρ, M, env, r, hen, d, M', hf, hq⟩ := w
  obtain ⟨ds, M1, h1, hf⟩ := bnd_some hf
  split at hf
  · rename_i hn
    refine wpAny_Call_Name_kw (ld_glob I hg hm ?_ hdb)
    refine PySem.W.callWith_KW0 (h₀ := X.base) I.ok.mod.kin hk hall ?_ hpl
    refine thn (ha.run pos pins s σ H (fun vs H1 => ∃ ρ1, Ext X.K ρ H ρ1 H1 ∧ Rl X.K ct ρ1 M1 H1 ∧ DVs X.K ρ1 H1 ds vs) I ⟨ρ, M, env, r, hen, ds, M1, h1, fun ρ1 H1 e1 r1 vs dvs => ⟨ρ1, e1, r1, dvs⟩⟩) fun us s1 z => ?_
    obtain ⟨vs, H1, I1, rv, ρ1, e1, r1, dvs⟩ := z
    rw [hks]
    exact ⟨I1.kIn, run_fnG G hr hgd I1 (hb s1 us I1.kIn (by rw [← rv.length, ← dvs.length]; exact hn.1)) (pick_vals rv is) (spF_use hn.2 e1 r1 (pick_dvs dvs is) hf hq)⟩
  · cases hf
/-! ## Instances -/
def putD (f : Str) (v : Dv) : List (Str × Dv) → List (Str × Dv)
  | [] => [(f, v)]
  | (g, x) :: r => if g = f then (g, v) :: r else (g, x) :: putD f v r
section
variable {K : Frg} {ρ : List Addr} {H : Hp}
theorem FV.nil : FV K ρ H [] [] := ⟨rfl, .nil⟩
theorem FV.length {fs : List (Str × Dv)} {vfs : List (Str × V)} (h : FV K ρ H fs vfs) : fs.length = vfs.length := by
  have := congrArg List.length h.1
  simpa using this
theorem FV.split {f : Str} {d : Dv} {fs : List (Str × Dv)} {vfs : List (Str × V)} (h : FV K ρ H ((f, d) :: fs) vfs) : ∃ v r, vfs = (f, v) :: r ∧ DV K ρ H d v ∧ FV K ρ H fs r := by
  obtain ⟨h1, h2⟩ := h
  cases vfs with
  | nil => cases h1
  | cons q r =>
    obtain ⟨g, v⟩ := q
    simp only [List.map_cons, List.cons.injEq] at h1
    obtain ⟨rfl, h1⟩ := h1
    cases h2 with
    | cons d1 dr => exact ⟨v, r, rfl, d1, h1, dr⟩
theorem FV.look : ∀ {fs : List (Str × Dv)} {vfs : List (Str × V)} {f : Str}, FV K ρ H fs vfs → (∀ d, fs.lookup f = some d → ∃ v, vfs.lookup f = some v ∧ DV K ρ H d v) ∧ (fs.lookup f = none → vfs.lookup f = none)
  | [], vfs, f, h => by
    obtain ⟨h1, _⟩ := h
    cases vfs with
    | nil => exact ⟨fun d q => (by cases q), fun _ => rfl⟩
    | cons _ _ => cases h1
  | (g, d) :: fs, vfs, f, h => by
    obtain ⟨v, r, rfl, h1, h2⟩ := h.split
    obtain ⟨i1, i2⟩ := FV.look (f := f) h2
    rw [List.lookup_cons, List.lookup_cons]
    cases hb : f == g with
    | true => exact ⟨fun d' q => ⟨v, rfl, (by cases q; exact h1)⟩, fun q => (by cases q)⟩
    | false => exact ⟨i1, i2⟩
theorem FV.put {f : Str} {d : Dv} {v : V} (hd : DV K ρ H d v) : ∀ {fs : List (Str × Dv)} {vfs : List (Str × V)}, FV K ρ H fs vfs → FV K ρ H (putD f d fs) (putF f v vfs)
  | [], vfs, h => by
    obtain ⟨h1, _⟩ := h
    cases vfs with
    | nil => exact ⟨rfl, .cons hd .nil⟩
    | cons _ _ => cases h1
  | (g, d') :: fs, vfs, h => by
    obtain ⟨u, r, rfl, h1, h2⟩ := h.split
    unfold putD putF
    by_cases hg : g = f
    · rw [if_pos hg, if_pos hg]
      exact ⟨by simp [h2.1], .cons hd h2.2⟩
    · rw [if_neg hg, if_neg hg]
      obtain ⟨i1, i2⟩ := FV.put hd h2
      exact ⟨by simp [i1], .cons h1 i2⟩
end
theorem Rl.ins {K : Frg} {ρ : List Addr} {M : Mem} {H : Hp} (r : Rl K ct ρ M H) {n : Nat} {fs : List (Str × Dv)} (hm : M[n]? = some (.ins c fs)) {v : V} (hv : DV K ρ H (.loc n) v) :
    ∃ a C dx vfs, v = .ref a ∧ ρ[n]? = some a ∧ ct c = some C ∧ H a = some (.ins C dx vfs) ∧ FV K ρ H fs vfs := by
  obtain ⟨a, h1, C, dx, vfs, h2, h3, h4⟩ := r.ok n _ hm
  cases hv with
  | loc h => rw [h] at h1; cases h1; exact ⟨_, C, dx, vfs, rfl, h, h2, h3, h4⟩
/-- o.f -/
def fFld (c : Nat) (f : Str) (fo : FE) : FE := fun env M => bnd (fo env M) fun d M1 => match d with
  | .loc n => match M1[n]? with
    | some (.ins c' fs) => if c' = c then match fs.lookup f with
        | some x => some (x, M1)
        | none => none
      else none
    | _ => none
  | _ => none
theorem se_fld {fld : Str} (ho : SE X ct o fo) (hc : ct c = some C) (cl : Cls X.K C) (na : NoAttr X.K C fld) (hb : attributeBase o fld X.env (eval o X.env) = eval o X.env := by rfl) : SE X ct (.Attribute o fld pos) (fFld c fld fo) :=
  PE.imp (pe_fld ho hb) fun σ H Q ⟨ρ, M, env, r, he, d, M', hf, hq⟩ => by
    obtain ⟨x, M1, h1, hf⟩ := bnd_some hf
    refine ⟨ρ, M, env, r, he, x, M1, h1, fun ρ1 H1 e1 r1 v dv => ?_⟩
    split at hf
    · split at hf
      · rename_i hm
        split at hf
        · rename_i hcc
          split at hf
          · rename_i y hy
            cases hf
            subst hcc
            obtain ⟨a, C', dx, vfs, rfl, a1, a2, a3, a4⟩ := r1.ins hm dv
            rw [hc] at a2; cases a2
            obtain ⟨u, u1, u2⟩ := a4.look.1 _ hy
            exact ⟨a, C, dx, vfs, u, rfl, a3, cl, na, u1, hq ρ1 H1 e1 r1 _ u2⟩
          · cases hf
        · cases hf
      · cases hf
    · cases hf
/-- o.f = e -/
def fPut (c : Nat) (f : Str) (fo fv : FE) : FS := fun env M => bnd (fv env M) fun y M1 => bnd (fo env M1) fun d M2 => match d with
  | .loc n => match M2[n]? with
    | some (.ins c' fs) => if c' = c ∧ fs.length < 1000 then some (.nx env, M2.set n (.ins c (putD f y fs))) else none
    | _ => none
  | _ => none
theorem ss_fld {fld : Str} {pos' : Pos} (ho : SE X ct o fo) (hv : SE X ct v' fv) (hc : ct c = some C) (cl : Cls X.K C) (na : NoAttr X.K C fld) (hs : swapsWith v' (some (.Attribute o fld pos')) pos.line X.env = pure false := by rfl) :
    SS X ct (.Assign [.Attribute o fld pos'] v' pos) (fPut c fld fo fv) :=
  PS.imp (ps_fld ho hv hs) fun D σ H ⟨ρ, M, env, r, he, fl, M', hf, hq⟩ => by
    obtain ⟨y, M1, h1, hf⟩ := bnd_some hf
    obtain ⟨d, M2, h2, hf⟩ := bnd_some hf
    refine ⟨ρ, M, env, r, he, y, M1, h1, fun ρ1 H1 e1 r1 v dv => ⟨ρ1, M1, env, r1, he.mono e1, d, M2, h2, fun ρ2 H2 e2 r2 u du => ?_⟩⟩
    split at hf
    · split at hf
      · rename_i hm
        split at hf
        · rename_i hcc
          cases hf
          obtain ⟨hcc, hl⟩ := hcc
          subst hcc
          obtain ⟨a, C', dx, vfs, rfl, a1, a2, a3, a4⟩ := r2.ins hm du
          rw [hc] at a2; cases a2
          have xs : Ext X.K ρ2 H2 ρ2 (upd H2 a (.ins C dx (putF fld v vfs))) := Ext.soft (fun _ _ z => z) (fun _ q => by rw [a3] at q; cases q) fun _ _ q => by rw [a3] at q; cases q
          obtain ⟨r3, e3⟩ := r2.put (o := .ins _ (putD fld y _)) (o' := .ins C dx (putF fld v vfs)) a1 a3 ⟨C, dx, _, hc, upd_same, (a4.put (dv.mono e2)).mono xs⟩
          exact ⟨a, C, dx, vfs, rfl, a3, cl, na, by rw [← a4.length]; exact hl, hq ρ2 _ ((e1.trans e2).trans e3) r3 σ (((he.mono e1).mono e2).mono e3)⟩
        · cases hf
      · cases hf
    · cases hf
/-- o.m(e, ..) of an own class -/
def isIns (c : Nat) (m : Str) (d : Dv) (M : Mem) : Bool :=
  match d with
  | .loc n => match M[n]? with
    | some (.ins c' fs) => c' == c && (fs.lookup m).isNone
    | _ => false
  | _ => false
def fMeth (c : Nat) (m : Str) (np : Nat) (F : FF) (fo : FE) (fr : FA) : FE := fun env M => bnd (fo env M) fun d M1 => if isIns c m d M1 then bnd (fr env M1) fun ds M2 => if (d :: ds).length = np then F (d :: ds) M2 else none else none
theorem isIns_ok {K : Frg} {ρ : List Addr} {M : Mem} {H : Hp} {d : Dv} {v : V} (r : Rl K ct ρ M H) (hv : DV K ρ H d v) (hc : ct c = some C) (h : isIns c m d M = true) : ∃ a dx vfs, v = .ref a ∧ H a = some (.ins C dx vfs) ∧ vfs.lookup m = none := by
  unfold isIns at h
  split at h
  · split at h
    · rename_i hm
      rw [Bool.and_eq_true] at h
      have e := eq_of_beq h.1
      subst e
      obtain ⟨a, C', dx, vfs, rfl, a1, a2, a3, a4⟩ := r.ins hm hv
      rw [hc] at a2; cases a2
      exact ⟨a, dx, vfs, rfl, a3, a4.look.2 (Option.isNone_iff_eq_none.mp h.2)⟩
    · cases h
  · cases h
theorem se_meth {pl : Sem Bool} (ho : SE X ct o fo) (hc : ct c = some C) (cl : Cls X.K C) (hm : Meth X.K C m f) (G : SF X ct k f fd ps F) (hr : Room k X.A) (hgd : X.A.guards = some []) (hb : Binds X.K fd ps []) (ha : SA X ct (e :: es) fr)
    (hst : starEach (e :: es) X.env = (false, eval e X.env) :: starEach es X.env := by rfl) (hpl : (backTo pos (starEach es X.env)).any (·.1) = false := by rfl)
    (ht : eval (.Call (.Attribute o m apos) (e :: es) [] pos) X.env = (do
      let ov ← eval o X.env
      standAt apos.atName
      let (f, first) ← holding [ov] (getMethod ov m pl)
      callWith pos f first (backTo pos (starEach (e :: es) X.env)) (backToKw pos (keywordEach [] X.env))) := by rfl) :
    SE X ct (.Call (.Attribute o m apos) (e :: es) [] pos) (fMeth c m ps.length F fo fr) := by
  refine ⟨fun pins s σ H Q I w => ?_⟩
  obtain ⟨ρ, M, env, r, hen, d, M', hf, hq⟩ := w
  obtain ⟨y, M1, h1, hf⟩ := bnd_some hf
  split at hf
  · rename_i hi
    obtain ⟨ds, M2, h2, hf⟩ := bnd_some hf
    split at hf
    · rename_i hn
      refine PySem.W.methodCall_KW (pl := pl) (thn (ho.run pins s σ H (fun v H1 => ∃ ρ1, Ext X.K ρ H ρ1 H1 ∧ Rl X.K ct ρ1 M1 H1 ∧ DV X.K ρ1 H1 y v) I ⟨ρ, M, env, r, hen, y, M1, h1, fun ρ1 H1 e1 r1 v dv => ⟨ρ1, e1, r1, dv⟩⟩) fun u s1 z => ?_) ht
      obtain ⟨v, H1, I1, rv, ρ1, e1, r1, dv⟩ := z
      obtain ⟨a, dx, vfs, rfl, a3, a4⟩ := isIns_ok r1 dv hc hi
      obtain rfl : u = Value.ref a := rv
      refine getmeth_ok I1 a3 cl hm a4 ?_
      refine PySem.W.callWith_K (first := [.ref a]) (h₀ := X.base) I.ok.mod.kin hm.kp (thn (ha.run pos pins s1 σ H1 (fun vs H2 => ∃ ρ2, Ext X.K ρ1 H1 ρ2 H2 ∧ Rl X.K ct ρ2 M2 H2 ∧ DVs X.K ρ2 H2 ds vs) I1 ⟨ρ1, M1, env, r1, hen.mono e1, ds, M2, h2, fun ρ2 H2 e2 r2 vs dvs => ⟨ρ2, e2, r2, dvs⟩⟩) fun us s2 z => ?_) hst hpl
      obtain ⟨vs, H2, I2, rvs, ρ2, e2, r2, dvs⟩ := z
      have D2 : DVs X.K ρ2 H2 (y :: ds) (.ref a :: vs) := .cons (dv.mono e2) dvs
      exact ⟨I2.kIn, run_fnG (us := .ref a :: us) (us' := .ref a :: us) G hr hgd I2 (by
        have := hb s2 (.ref a :: us) I2.kIn (by rw [List.append_nil, ← hn, D2.length]; exact congrArg (· + 1) rvs.length.symm)
        rwa [List.append_nil] at this) (.cons (a := V.ref a) rfl rvs) (spF_use hn (e1.trans e2) r2 D2 hf hq)⟩
    · cases hf
  · cases hf
theorem se_meth0 {pl : Sem Bool} (ho : SE X ct o fo) (hc : ct c = some C) (cl : Cls X.K C) (hm : Meth X.K C m f) (G : SF X ct k f fd ps F) (hr : Room k X.A) (hgd : X.A.guards = some []) (hb : Binds X.K fd ps [])
    (ht : eval (.Call (.Attribute o m apos) [] [] pos) X.env = (do
      let ov ← eval o X.env
      standAt apos.atName
      let (f, first) ← holding [ov] (getMethod ov m pl)
      callWith pos f first (backTo pos (starEach [] X.env)) (backToKw pos (keywordEach [] X.env))) := by rfl) :
    SE X ct (.Call (.Attribute o m apos) [] [] pos) (fMeth c m ps.length F fo fNil) := by
  refine ⟨fun pins s σ H Q I w => ?_⟩
  obtain ⟨ρ, M, env, r, hen, d, M', hf, hq⟩ := w
  obtain ⟨y, M1, h1, hf⟩ := bnd_some hf
  split at hf
  · rename_i hi
    obtain ⟨ds, M2, h2, hf⟩ := bnd_some hf
    cases h2
    split at hf
    · rename_i hn
      refine PySem.W.methodCall_KW (pl := pl) (thn (ho.run pins s σ H (fun v H1 => ∃ ρ1, Ext X.K ρ H ρ1 H1 ∧ Rl X.K ct ρ1 _ H1 ∧ DV X.K ρ1 H1 y v) I ⟨ρ, M, env, r, hen, y, _, h1, fun ρ1 H1 e1 r1 v dv => ⟨ρ1, e1, r1, dv⟩⟩) fun u s1 z => ?_) ht
      obtain ⟨v, H1, I1, rv, ρ1, e1, r1, dv⟩ := z
      obtain ⟨a, dx, vfs, rfl, a3, a4⟩ := isIns_ok r1 dv hc hi
      obtain rfl : u = Value.ref a := rv
      refine getmeth_ok I1 a3 cl hm a4 ?_
      exact PySem.W.callWith_K0 (first := [.ref a]) I1.kIn hm.kp (run_fnG (us := [.ref a]) (us' := [.ref a]) G hr hgd I1 (by
        have := hb s1 [.ref a] I1.kIn (by simpa using hn)
        rwa [List.append_nil] at this) (.cons (a := V.ref a) rfl .nil) (spF_use hn e1 r1 (.cons dv .nil) hf hq))
    · cases hf
  · cases hf
/-- C(e, ..) -/
def fMake (c : Nat) (np : Nat) (F : FF) (fr : FA) : FE := fun env M => bnd (fr env M) fun ds M1 => if ds.length + 1 = np then bnd (F (.loc M1.length :: ds) (M1 ++ [.ins c []])) fun d M2 => match d with
    | .non => some (.loc M1.length, M2)
    | _ => none
  else none
theorem se_make (M0 : Mk X.K C f) (hc : ct c = some C) (G : SF X ct k f fd ps F) (hr : Room (k + 1) X.A) (hgd : X.A.guards = some []) (hg : Gl X x) (hm : X.mg x = some (.ref C)) (hb : Binds X.K fd ps []) (ha : SA X ct (e :: es) fr)
    (hdb : (x == ("__debug__" : Str)) = false := by decide) (he : starEach (e :: es) X.env = (false, eval e X.env) :: starEach es X.env := by rfl) (hpl : (backTo pos (starEach es X.env)).any (·.1) = false := by rfl) :
    SE X ct (.Call (.Name x p) (e :: es) [] pos) (fMake c ps.length F fr) := by
  refine ⟨fun pins s σ H Q I w => ?_⟩
  obtain ⟨ρ, M, env, r, hen, d, M', hf, hq⟩ := w
  obtain ⟨ds, M1, h1, hf⟩ := bnd_some hf
  split at hf
  · rename_i hn
    obtain ⟨d0, M2, h2, hf⟩ := bnd_some hf
    split at hf
    · cases hf
      refine wpAny_Call_Name_kw (ld_glob I hg hm ?_ hdb)
      refine PySem.W.callWith_K (h₀ := X.base) I.ok.mod.kin M0.kp (thn (ha.run pos pins s σ H (fun vs H1 => ∃ ρ1, Ext X.K ρ H ρ1 H1 ∧ Rl X.K ct ρ1 M1 H1 ∧ DVs X.K ρ1 H1 ds vs) I ⟨ρ, M, env, r, hen, ds, M1, h1, fun ρ1 H1 e1 r1 vs dvs => ⟨ρ1, e1, r1, dvs⟩⟩) fun us s1 z => ?_) he hpl
      obtain ⟨vs, H1, I1, rv, ρ1, e1, r1, dvs⟩ := z
      refine ⟨I1.kIn, ?_⟩
      have n1 : H1 s1.heap.objs.size = none := I1.hok.fresh (Nat.le_refl _)
      have n2 : H1 (s1.heap.objs.size + 1) = none := I1.hok.fresh (Nat.le_succ _)
      have ne : s1.heap.objs.size + 1 ≠ s1.heap.objs.size := Nat.succ_ne_self _
      have I2 := Inv.made (C := C) I1
      have rA := r1.tup n1 (.own (s1.heap.objs.size + 1))
      have n3 : upd H1 s1.heap.objs.size (.own (s1.heap.objs.size + 1)) (s1.heap.objs.size + 1) = none := by rw [upd_ne ne]; exact n2
      obtain ⟨rB, xB, aB⟩ := rA.new (o := .ins c []) (o' := .ins C s1.heap.objs.size []) n3 ⟨C, _, [], hc, upd_same, FV.nil⟩
      have xx := (Ext.fresh n1).trans xB
      have D2 : DVs X.K (ρ1 ++ [s1.heap.objs.size + 1]) _ (.loc M1.length :: ds) (.ref (s1.heap.objs.size + 1) :: vs) := .cons (.loc aB) (dvs.mono xx)
      have len2 : (Value.ref (s1.heap.objs.size + 1) :: us).length = ps.length := by rw [← hn, dvs.length, ← rv.length.symm]; rfl
      have bt := hb { s1 with heap := (s1.heap.push PySem.W.emptyDict).push (PySem.W.instObj C s1.heap.objs.size) } (.ref (s1.heap.objs.size + 1) :: us) I2.kIn (by rw [List.append_nil]; exact len2)
      rw [List.append_nil] at bt
      refine wpAny_call (make_map (f := f) I1.kIn M0.makes M0.init (beq_iff_eq.mp M0.fn) (codeAny_mono (G.run _ X.stack _ _ ⟨.ref (s1.heap.objs.size + 1) :: us, []⟩ (.ref (s1.heap.objs.size + 1) :: us) (.ref (s1.heap.objs.size + 1) :: vs) (fun v H2 => v = .non ∧ Q (.ref (s1.heap.objs.size + 1)) H2) E0 (hr.make C us [])
        hgd (I2.env0.make C us []) bt (.cons rfl rv) ?_) fun z s' hz => ?_))
      · refine ⟨by rw [← D2.length]; exact hn, _, _, _, rB, D2, _, _, h2, fun ρ3 H3 e3 r3 v hv => ?_⟩
        cases hv
        exact ⟨rfl, hq ρ3 H3 ((e1.trans xx).trans e3) r3 _ (.loc (e3.pre _ _ aB))⟩
      · match z, hz with
        | .ok (.ret u), hz =>
          obtain ⟨v, H', I3, rv3, ev, q3⟩ := I2.after hz
          subst ev
          exact ⟨rv3, ⟨V.ref (s1.heap.objs.size + 1), H', I3, rfl, q3⟩⟩
    · cases hf
  · cases hf
end
end Zl

/-! text Z10 -/
namespace Zl
open PySem L2 PySem.Spec PyProof.Rows

/-- the script, all ints -/
theorem dvs_ints {K : Frg} {ρ : List Addr} {H : Hp} : ∀ ns : List Int, DVs K ρ H (ns.map Dv.int) (ns.map V.int)
  | [] => .nil
  | n :: r => .cons (.int n) (dvs_ints r)
/-- the law's call from the def's mirror -/
theorem law_end {P : Program} {w : World} {K : Frg} {mg mb : Str → Option Value} {ct : Ct} {k : Nat} {fa a : Addr} {fd : FuncData} {x : Str} {F : FF} {s₁ : Shared} {us : List Value} {ns : List Int}
    (KX : K.In s₁.heap) (hns : s₁.heap.Ns mainGlobals mg) (hb : s₁.heap.Ns builtinsNs mb) (hbb : ∀ x : Str, x ≠ "__name__" → mb x = bootBuiltins x) (hlim : s₁.heap.NoLimit) (hg : s₁.gens = #[])
    (ha : s₁.heap.get? a = some { cls := .type "list", data := .seq us.toArray }) (hi : IntsAre us ns) (hl : ns.length ≤ sizeLine) (hr : Room k callerA)
    (G : ∀ base : Heap, K.In base → base.Ns mainGlobals mg → FnG P w K mg base k fa fd [x] (spF K ct F 1)) (hbind : ∀ (s : Shared) (u : Value), BindsTo s fd ⟨[u], []⟩ [(x, u)])
    (hF : ∃ M', F [.rol (ns.map Dv.int)] [] = some (.bl true, M')) :
    codeAny (model P w) callerA (.call (.ref fa) ⟨[.ref a], []⟩) (fun r s' => r = .ok (.ret (.bool true)) ∧ OldK s₁.heap s'.heap ∧ s'.os = s₁.os ∧ AllBare s'.gens) s₁ := by
  obtain ⟨M', hF⟩ := hF
  have rv : Vals (ns.map V.int) us := vals_of_ints hi
  have lenV : ns.length = us.length := by simpa using rv.length
  -- from an abstract heap that holds the script at most, locked
  have core : ∀ H : Hp, (∀ b u, H b = some u → b = a ∧ u = .frz { cls := .type "list", data := .seq us.toArray } (.lst (ns.map V.int)) ∧ K.lookup a = none) → SqF K H a (ns.map V.int) →
      codeAny (model P w) callerA (.call (.ref fa) ⟨[.ref a], []⟩) (fun r s' => r = .ok (.ret (.bool true)) ∧ OldK s₁.heap s'.heap ∧ s'.os = s₁.os ∧ AllBare s'.gens) s₁ := by
    intro H hH hS
    have hok : HOk P w H s₁.heap := fun b u e => by
      obtain ⟨rfl, rfl, _⟩ := hH b u e
      exact ⟨ha, by rw [List.length_map]; exact hl, us, _, rv, ha⟩
    have hide : ∀ {b : Addr} {o : Obj} {es : Array DictEntry} {ep : Nat}, s₁.heap.get? b = some o → o.data = .dict es ep → (hidT s₁.heap H).get? b = some o := fun {b o es ep} e d => by
      refine hidT_get e ?_
      cases q : H b with
      | none => rfl
      | some u =>
        obtain ⟨rfl, _, _⟩ := hH b u q
        rw [ha] at e; cases e; cases d
    have nsK : ∀ {b : Addr} {m : Str → Option Value}, s₁.heap.Ns b m → (hidT s₁.heap H).Ns b m := fun ⟨o, es, ep, e, d, z⟩ => ⟨o, es, ep, hide e d, d, z⟩
    have kB : K.In (hidT s₁.heap H) := fun b o e => hidT_get (KX b o e) (by
      cases q : H b with
      | none => rfl
      | some u =>
        obtain ⟨rfl, _, z⟩ := hH b u q
        rw [z] at e; cases e)
    have e0 : Env0 P w K mg (hidT s₁.heap H) callerA [] s₁ H :=
      ⟨rfl, ⟨kB, nsK hns, ⟨mb, nsK hb, hbb⟩, let ⟨mc, h1, h2⟩ := hlim; ⟨mc, nsK h1, h2⟩⟩, fun b o e => of_hidT e, Nat.le_of_eq (hidT_size _ _), trivial, fun b hb => absurd (show b ∈ ([] : List Addr) from hb) (fun y => nomatch y), hok, AllBare.of_eq hg⟩
    have sp : spF K ct F 1 [.ref a] H (fun v _ => v = .bl true) E0 := ⟨rfl, [], [], _, ⟨rfl, List.nodup_nil, fun n o h => by simp at h⟩, .cons (.rol hS (dvs_ints ns)) .nil, _, _, hF, fun ρ' H' _ _ v hv => by cases hv; rfl⟩
    refine codeAny_mono ((G _ kB (nsK hns)).run callerA [] s₁ H ⟨[.ref a], []⟩ [.ref a] [.ref a] _ _ hr rfl e0 (hbind s₁ (.ref a)) (.cons rfl .nil) sp) fun z s' h => ?_
    match z, h with
    | .ok (.ret u), h =>
      obtain ⟨v, H', os, bare, un, hok', r', q⟩ := h
      have q' : v = .bl true := q
      subst q'
      obtain rfl : u = Value.bool true := r'
      refine ⟨rfl, OldK.of_keep fun b o e => ?_, os, bare⟩
      cases z : H b with
      | none => exact un.keep b o e z (fun y => absurd (show b ∈ ([] : List Addr) from y) (fun y => nomatch y)) (fun y => nomatch y)
      | some u =>
        obtain ⟨rfl, rfl, _⟩ := hH b u z
        rw [ha] at e
        rw [← e]
        exact (hok' _ _ (un.frzs _ _ _ z)).1
  cases hk : K.lookup a with
  | some o =>
    have e := KX a o hk
    rw [ha] at e
    cases e
    refine core (fun _ => none) (fun b u z => by cases z) (.inr ⟨fun H' => .inr ⟨_, us.toArray, _, hk, rfl, rfl, rfl, by rw [List.size_toArray, ← lenV]; exact hl, by simpa using rv⟩, _, hk, rfl⟩)
  | none =>
    refine core (fun b => if b = a then some (.frz { cls := .type "list", data := .seq us.toArray } (.lst (ns.map V.int))) else none) (fun b u z => ?_) (.inl ⟨_, if_pos rfl⟩)
    by_cases hb : b = a
    · rw [if_pos hb] at z; cases z
      exact ⟨hb, rfl, hk⟩
    · rw [if_neg hb] at z; cases z
/-- the goal that k_head leaves -/
theorem walk_end {l : PySem.W.OpenLaw} {k : Nat} {q : Program} {loose : List Str} {XP : (Str → Option Value) → Heap → Prop} {YP : World → Heap → Prop} {d : DefRec} {K : Params → Frg} {x : Str} {F : FF}
    (hn : l.most = some 63) (hdf : d.params.defaults = []) (hr : Room k callerA) (hY : ∀ (w : World) (h : Heap), YP w h → (K w.params).In h)
    (T : ∀ (w : World) (mg : Str → Option Value) (fa : Addr) (h : Heap), (K w.params).In h → h.Ns mainGlobals mg → mg d.name = some (.ref fa) →
      ∃ (ct : Ct) (fd : FuncData), (∀ (s : Shared) (u : Value), BindsTo s fd ⟨[u], []⟩ [(x, u)]) ∧ ∀ base : Heap, (K w.params).In base → base.Ns mainGlobals mg → FnG l.prog w (K w.params) mg base k fa fd [x] (spF (K w.params) ct F 1))
    (hF : ∀ ns : List Int, ns.length ≤ 63 → ∃ M', F [.rol (ns.map Dv.int)] [] = some (.bl true, M')) :
    PySem.W.WalkO q loose XP YP l.row.toRowW d [] (fun f vs => PySem.call f vs) := by
  refine Att.attach_call hn hdf fun w s₀ s₁ mg mb fa o pm cd doc a vs ns G Y ho hd hcd hmg hobj hints hlen hg => ?_
  have KX := hY w _ Y
  obtain ⟨ct, fd, hb, hG⟩ := T w mg fa _ KX G.T.g hmg
  exact law_end KX G.T.g G.T.b G.T.builtins G.T.nolimit hg hobj hints (Nat.le_trans hlen (by decide)) hr hG hb (hF ns hlen)
end Zl

/-! text Z11 -/
namespace Zl
open PySem L2 PySem.Spec PyProof.Rows
open AutoSeq1 (wpAny_loadPart')

/-! ## enumerate -/
theorem enumerate_newT (l : Addr) (items : Array Value) (n : Nat) (dct : Option Addr) (sl : Array (Option Value)) :
    Meets (Builtin.«enumerate.__new__» ⟨[.type "enumerate", .ref l], []⟩) (fun _ R s => s.heap.get? l = some { cls := .type "tuple", dict := dct, data := .seq items n, slots := sl } ∧
      R (.ok (.ret (.ref (s.heap.push { cls := .type "tuple_iterator", data := .fields #[.ref l, .int 0 0] }).objs.size)))
        { s with heap := (s.heap.push { cls := .type "tuple_iterator", data := .fields #[.ref l, .int 0 0] }).push { cls := .type "enumerate", data := .fields #[.none, .bool false, .ref s.heap.objs.size, rawInt 0, .none, .none] } }) :=
  .of_wp fun prog w A R s h => by
    obtain ⟨hp, g, d, tk, os⟩ := s
    obtain ⟨hl, h⟩ := h
    have hsub := sub_enumerate
    have hT : Heap.IsTuple (Shared.heap ⟨hp, g, d, tk, os⟩) l items := ⟨_, hl, rfl, n, rfl⟩
    wp_walk using wpAny_loadPart' hl
    refine wpAny_stack_any fun st => wpAny_pure ?_
    split
    · rename_i c _ _ _ _ _
      cases (c == Value.type "enumerate")
      · wp_walk using wpAny_loadPart' hl, wpAny_pyIter_tuple hT
        exact ⟨_, rfl, h⟩
      · wp_walk using wpAny_loadPart' hl, wpAny_pyIter_tuple hT
        exact ⟨_, rfl, h⟩
    · wp_walk using wpAny_loadPart' hl, wpAny_pyIter_tuple hT
      exact ⟨_, rfl, h⟩
theorem call_enumT {prog : Program} {w : World} {A : Around} {E : Value → Shared → Prop} {s : Shared} {l : Addr} {items : Array Value} {Q : Value → Shared → Prop} (hL : s.heap.IsTuple l items)
    (h : ∀ h', IsEnum h' (s.heap.objs.size + 1) s.heap.objs.size 0 .none → h'.IsTupleIter s.heap.objs.size l 0 → (∀ b o, s.heap.get? b = some o → h'.get? b = some o) → Q (.ref (s.heap.objs.size + 1)) { s with heap := h' }) :
    wpAny (model prog w) A (call (.type "enumerate") [.ref l]) Q E s := by
  obtain ⟨⟨c, dct, dt, sl⟩, hl, hc, n, hd⟩ := hL
  replace hc : c = .type "tuple" := hc
  replace hd : dt = .seq items n := hd
  subst hc hd
  refine callType_new F.called_enumerate (by decide) (F.typeCall_enumerate_1 _) (F.newCall_enumerate_1 _) (fun obj => F.args_object_init_2 obj _) F.entry_enumerate_new (enumerate_newT l items n dct sl) ⟨hl, ?_⟩
  have hz : (s.heap.push { cls := .type "tuple_iterator", data := .fields #[.ref l, .int 0 0] }).objs.size = s.heap.objs.size + 1 := Heap.size_push ..
  show _ ∧ _
  rw [hz]
  have he : IsEnum ((s.heap.push { cls := .type "tuple_iterator", data := .fields #[.ref l, .int 0 0] }).push
      { cls := .type "enumerate", data := .fields #[.none, .bool false, .ref s.heap.objs.size, rawInt 0, .none, .none] }) (s.heap.objs.size + 1) s.heap.objs.size 0 .none := by
    have q := Heap.get?_push_size (s.heap.push { cls := .type "tuple_iterator", data := .fields #[.ref l, .int 0 0] })
      (o := { cls := .type "enumerate", data := .fields #[.none, .bool false, .ref s.heap.objs.size, rawInt 0, .none, .none] }) rfl
    rwa [hz] at q
  exact ⟨⟨_, he, rfl⟩, h _ he ⟨_, Heap.get?_push_of_some _ (Heap.get?_push_size _ rfl), rfl, rfl⟩ fun b o x => Heap.get?_push_of_some _ (Heap.get?_push_of_some _ x)⟩
/-- the tuple at a, each item in a new pair -/
def IteT (K : Frg) (a : Addr) : It :=
  ⟨fun i H => ∃ (xs : List V) (x : V), SqT K H a xs ∧ xs[i]? = some x, fun i H v H' => ∃ T x, v = .ref T ∧ H T = none ∧ H' = upd H T (.tup [.int (i : Nat), x]) ∧ ∀ xs, SqT K H a xs → xs[i]? = some x, fun i H => ∃ xs : List V, SqT K H a xs ∧ xs.length = i⟩
theorem turn_enumT {P : Program} {w : World} {K : Frg} {elts : List Expr} {kk : Nat} {tpos : Pos} (a e it : Addr) (hai : a ≠ it) (hea : e ≠ a) :
    Turn P w K (.Tuple elts kk tpos) (IteT K a) [e, it] e (fun i h => (∃ old, IsEnum h e it ((i : Nat) : Int) old) ∧ h.IsTupleIter it a i ∧ e ≠ it) where
  mem := by simp
  obj := fun i h st b hb => by
    obtain ⟨⟨old, he⟩, ⟨o, ho, hc, hd⟩, _⟩ := st
    rcases (show b = e ∨ b = it by simpa using hb) with rfl | rfl
    · exact ⟨_, he, fun v q => nomatch q⟩
    · exact ⟨o, ho, fun v q => by rw [hd] at q; cases q⟩
  keep := fun i h h' st k => let ⟨⟨old, he⟩, hi, hne⟩ := st; ⟨⟨old, k e (by simp) _ he⟩, hi.at fun o q => k it (by simp) o q, hne⟩
  item := by
    intro X hP hw hK hc i pins s σ H E I hf st hg
    subst hP hw hK
    obtain ⟨⟨old, he⟩, hit, hne⟩ := st
    obtain ⟨xs, x, hq, hx⟩ := hg
    obtain ⟨its, rv, p, hz⟩ := I.tuple hq
    obtain ⟨u, hu, ru⟩ := rv.get hx
    have hil : i < its.toArray.size := by simpa using (List.getElem?_eq_some_iff.mp hu).1
    have hel : e < s.heap.objs.size := Heap.lt_size he
    have hitl : it < s.heap.objs.size := by obtain ⟨_, q, _⟩ := hit; exact Heap.lt_size q
    refine wpAny_pyNext_enum_itemD (Draws.tuple (A := X.A.in1) (I.ok.hd hc) it a hai its.toArray) he ⟨hit, p⟩ hil hne (by simp [hne, hea]) fun y h' tk hy ho st' hT hsz hk => ?_
    have ey : y = u := by
      have : its[i]? = some y := by simpa using hy
      rw [hu] at this; exact (Option.some.inj this).symm
    subst ey
    refine ⟨_, rfl, wpAny_letOwnedTupleGo_enum (s := { s with heap := h', toks := tk + 1 }) ho fun h'' he' sb => ?_⟩
    have hT2 : h''.get? s.heap.objs.size = some { cls := .type "tuple", data := .seq #[.int i tk, y] } := (sb.2 _ (Nat.ne_of_gt hel)).trans hT
    have new : ObjOk X.prog X.w (upd H s.heap.objs.size (.tup [.int (i : Nat), x])) h'' s.heap.objs.size (.tup [.int (i : Nat), x]) :=
      ⟨by show 2 ≤ sizeLine; decide, [.int i tk, y], .cons ⟨_, rfl⟩ (.cons ru .nil), ⟨_, hT2, rfl, _, rfl⟩⟩
    have I1 : Inv X pins σ (upd H s.heap.objs.size (.tup [.int (i : Nat), x])) { s with heap := h'', toks := tk + 1 } :=
      I.turnedNew (ch := [e, it]) (fun b ob hb q => (sb.2 b (fun z => hb (by simp [z]))).trans (hk b ob (fun z => hb (by simp [z])) (fun z => hb (by simp [z])) q)) hf (Nat.le_refl _) new
    refine ⟨V.ref s.heap.objs.size, _, I1, rfl, ⟨_, x, rfl, I.hok.fresh (Nat.le_refl _), rfl, fun ys hy => by rw [I.tuple_inj hy hq]; exact hx⟩, ⟨⟨y, by rw [Int.natCast_add]; exact he'⟩, st'.1.at fun o q => (sb.2 it (Ne.symm hne)).trans q, hne⟩, fun b hb => ?_⟩
    have hb' : b < s.heap.objs.size := by
      rcases (show b = e ∨ b = it by simpa using hb) with rfl | rfl
      · exact hel
      · exact hitl
    rw [upd_ne (Nat.ne_of_lt hb')]
    exact (hf b hb).1
  done := by
    intro X hP hw hK hc i pins s σ H E I hf st hg
    subst hP hw hK
    obtain ⟨⟨old, he⟩, hit, hne⟩ := st
    obtain ⟨xs, hq, hx⟩ := hg
    obtain ⟨its, rv, p, hz⟩ := I.tuple hq
    obtain ⟨f0, f1, f2, f3, f4, f5⟩ := hf it (by simp)
    have hl : its.toArray.size = i := by rw [List.size_toArray, ← rv.length, hx]
    subst hl
    exact wpAny_pyNext_enum_endD (Draws.tuple (A := X.A.in1) (I.ok.hd hc) it a hai its.toArray) he ⟨hit, p⟩ fun h' eb => ⟨rfl, I.turned (t' := s.toks) (fun b o hb q => eb b o hb q) f0 f1 f3 f4 f5⟩
  self := fun A i s Q E st h => let ⟨⟨_, he⟩, _⟩ := st; wpAny_pyIter_enum he h
section
variable {X : Cx} {ct : Ct} {e e2 o : Expr} {es : List Expr} {elts : List Expr} {kk : Nat} {p pos tpos apos cpos : Pos} {fe f2 fo : FE} {fr : FA}
theorem pi_enumT {ta : TE} (hg : Gl X "enumerate") (hm : X.mg "enumerate" = none) (ha : PE X e ta) (hs : starEach [e] X.env = [(false, eval e X.env)] := by rfl) :
    PI X (.Tuple elts kk tpos) (.Call (.Name "enumerate" p) [e] [] pos) (fun σ H R => ta σ H fun v H1 => ∃ a xs, v = .ref a ∧ SqT X.K H1 a xs ∧ R (IteT X.K a) H1) := by
  refine ⟨fun pins s σ H R I h => ?_⟩
  refine Call_ (ld_blt I hg hm boot_enumerate (PyProof.Rows.callWith_type1 (args_cons (thn (ha.run pins s σ H _ I h) fun u s1 z => args_nil ?_) hs) hs rfl))
  obtain ⟨v, H1, I1, rv, a, xs, rfl, hq, q⟩ := z
  cases rv
  obtain ⟨its, rv, p', hz⟩ := I1.tuple hq
  have hlt : a < s1.heap.objs.size := p'.lt
  refine call_enumT p' fun h' he hit hk => wpAny_pyIter_enum he ?_
  have I2 : Inv X pins σ H1 { s1 with heap := h' } := I1.kept (t' := s1.toks) hk
  refine ⟨s1.heap.objs.size + 1, [s1.heap.objs.size + 1, s1.heap.objs.size], _, _, H1, rfl, I2, turn_enumT a _ _ (Nat.ne_of_lt hlt) (fun z => absurd (z ▸ hlt : s1.heap.objs.size + 1 < s1.heap.objs.size) (by omega)), ⟨⟨.none, he⟩, hit, Nat.succ_ne_self _⟩, fun b hb => ?_, q⟩
  have hle : s1.heap.objs.size ≤ b := by
    rcases (show b = s1.heap.objs.size + 1 ∨ b = s1.heap.objs.size by simpa using hb) with rfl | rfl
    · exact Nat.le_succ _
    · exact Nat.le_refl _
  exact I1.fpOk hle (I1.hok.fresh hle)
def pairs (xs : List Dv) (i : Nat) : Option Dv := xs[i]?.map fun x => .pr [.int (i : Nat), x]
def srcE (M : Mem) : Dv → Option Src
  | .tup xs => some ⟨xs.length, fun i _ => if i ≤ xs.length then some (pairs xs i) else none⟩
  | .loc n => match M[n]? with
    | some (.lst xs) => some ⟨xs.length, fun i M => match M[n]? with
      | some (.lst xs) => some (pairs xs i)
      | _ => none⟩
    | _ => none
  | _ => none
def fEnum (f : FE) : FI := fun env M => bnd (f env M) fun d M1 => match srcE M1 d with
  | some s => some (s, M1)
  | none => none
theorem feeds_enumT {K : Frg} {ρ0 : List Addr} {H0 : Hp} {a : Addr} {xs : List Dv} {vs : List V} (hs : TupD K H0 a vs) (hd : DVs K ρ0 H0 xs vs) : Feeds K ct ρ0 H0 (IteT K a) (fun i _ => if i ≤ xs.length then some (pairs xs i) else none) := by
  intro i ρ M H x r
  dsimp only
  by_cases hi : i ≤ xs.length
  · rw [if_pos hi]
    unfold pairs
    cases q : xs[i]? with
    | none => exact ⟨vs, (hs.mono x).sq, by rw [← hd.length]; exact Nat.le_antisymm (List.getElem?_eq_none_iff.mp q) hi⟩
    | some d =>
      obtain ⟨v, h1, h2⟩ := hd.get q
      refine ⟨⟨vs, v, (hs.mono x).sq, h1⟩, fun y H' hy => ?_⟩
      obtain ⟨T, z, rfl, hT, rfl, hy⟩ := hy
      have := hy vs (hs.mono x).sq
      rw [h1] at this; cases this
      exact ⟨Ext.fresh hT, r.tup hT _, .pr (SqT.of upd_same) (.cons (.int _) (.cons ((h2.mono x).mono (Ext.fresh hT)) .nil))⟩
  · rw [if_neg hi]; trivial
theorem feeds_enumL {K : Frg} {ρ0 : List Addr} {H0 : Hp} {a : Addr} {n : Nat} (hn : ρ0[n]? = some a) : Feeds K ct ρ0 H0 (Ite K a) (fun i M => match M[n]? with
      | some (.lst xs) => some (pairs xs i)
      | _ => none) := by
  intro i ρ M H x r
  dsimp only
  cases hm : M[n]? with
  | none => trivial
  | some o =>
    cases o with
    | ins c fs => trivial
    | dct kvs => trivial
    | dcn kvs => trivial
    | st xs => trivial
    | sk xs => trivial
    | lck => trivial
    | lckN kvs => trivial
    | lst xs =>
      obtain ⟨b, vs, eb, b1, b2, b3⟩ := r.lst hm (.loc (x.pre n a hn))
      cases eb
      show (match some (pairs xs i) with | some (some d) => _ | some none => _ | none => _)
      unfold pairs
      cases q : xs[i]? with
      | none => exact ⟨vs, SqL.of b2, by rw [← b3.length]; exact List.getElem?_eq_none_iff.mp q⟩
      | some d =>
        obtain ⟨v, h1, h2⟩ := b3.get q
        refine ⟨⟨vs, v, SqL.of b2, h1⟩, fun y H' hy => ?_⟩
        obtain ⟨T, z, rfl, hT, rfl, hy⟩ := hy
        have := hy vs (SqL.of b2)
        rw [h1] at this; cases this
        exact ⟨Ext.fresh hT, r.tup hT _, .pr (SqT.of upd_same) (.cons (.int _) (.cons (h2.mono (Ext.fresh hT)) .nil))⟩
theorem si_enum (hg : Gl X "enumerate") (hm : X.mg "enumerate" = none) (h : SE X ct e fe) (hs : starEach [e] X.env = [(false, eval e X.env)] := by rfl) : SI X ct (.Tuple elts kk tpos) (.Call (.Name "enumerate" p) [e] [] pos) (fEnum fe) := by
  refine PI.imp (PI.or (pi_enum hg hm (sa_cons h sa_nil hs) hs) (pi_enumT hg hm h hs)) fun σ H R ⟨ρ, M, env, r, he, src, M', hf, hq⟩ => ?_
  obtain ⟨d, M1, h1, hf⟩ := bnd_some hf
  split at hf
  · rename_i s0 hs
    cases hf
    unfold srcE at hs
    split at hs
    · cases hs
      exact .inr ⟨ρ, M, env, r, he, _, _, h1, fun ρ1 H1 e1 r1 v dv => by
        cases dv with
        | tup hs hd => exact ⟨_, _, rfl, hs.sq, hq ρ1 H1 e1 r1 _ (feeds_enumT hs hd)⟩⟩
    · split at hs
      · rename_i hm
        cases hs
        refine .inl ⟨ρ, M, env, r, he, [_], _, by show bnd (fe env M) _ = _; rw [h1]; rfl, fun ρ1 H1 e1 r1 vs dvs => ?_⟩
        obtain ⟨v, rfl, dv⟩ := dvs_one dvs
        obtain ⟨a, ws, rfl, a1, a2, a3⟩ := r1.lst hm dv
        exact ⟨_, _, rfl, SqL.of a2, hq ρ1 H1 e1 r1 _ (feeds_enumL a1)⟩
      · cases hs
    · cases hs
  · cases hf
/-! ## tuple(range(..)), list(range(..)) -/
def rgD (a b : Int) : List Dv := (List.range (b - a).toNat).map fun i => .int (a + (i : Nat))
theorem dvs_rg {K : Frg} {ρ : List Addr} {H : Hp} (a b : Int) : DVs K ρ H (rgD a b) (rgV a b) := by
  unfold rgD rgV
  induction List.range (b - a).toNat with
  | nil => exact .nil
  | cons x r ih => exact .cons (.int _) ih
def rgOk (a b : Int) : Bool := decide (-(2 ^ 62) ≤ a ∧ a < 2 ^ 62 ∧ -(2 ^ 62) ≤ b ∧ b < 2 ^ 62 ∧ (b - a).toNat ≤ 2 ^ 24)
theorem rgOk_of {a b : Int} (h : rgOk a b = true) : RgOk a b := by
  have := of_decide_eq_true h
  exact this
/-- an expression that makes a range -/
abbrev FR := En → Mem → Option ((Int × Int) × Mem)
def tRz (K : Frg) (ct : Ct) (f : FR) : L2.St → Hp → (Int → Int → Hp → Prop) → Prop := fun σ H Q => ∃ ρ M env, Rl K ct ρ M H ∧ EnOk K ρ H env σ ∧ ∃ q M', f env M = some (q, M') ∧ Aft K ct ρ H M' fun _ H' => Q q.1 q.2 H'
abbrev SR (X : Cx) (ct : Ct) (e : Expr) (f : FR) : Prop := PRg X e (tRz X.K ct f)
def fRg1 (f : FE) : FR := fun env M => bnd (f env M) fun d M1 => match d with
  | .int n => some ((0, n), M1)
  | _ => none
def fRg2 (f g : FE) : FR := fun env M => bnd (f env M) fun d M1 => bnd (g env M1) fun d2 M2 => match d, d2 with
  | .int i, .int j => some ((i, j), M2)
  | _, _ => none
theorem sr_1 (hg : Gl X "range") (hm : X.mg "range" = none) (ha : SE X ct e fe) (na : starEach [e] X.env = (false, eval e X.env) :: starEach [] X.env := by rfl) : SR X ct (.Call (.Name "range" p) [e] [] pos) (fRg1 fe) := by
  intro pins s σ H Q I w
  refine prg_1 hg hm ha na pins s σ H Q I ?_
  obtain ⟨ρ, M, env, r, he, q, M', hf, hq⟩ := w
  obtain ⟨d, M1, h1, hf⟩ := bnd_some hf
  refine ⟨ρ, M, env, r, he, d, M1, h1, fun ρ1 H1 e1 r1 v dv => ?_⟩
  split at hf
  · cases hf; cases dv
    exact ⟨_, rfl, hq ρ1 H1 e1 r1⟩
  · cases hf
theorem sr_2 (hg : Gl X "range") (hm : X.mg "range" = none) (ha : SE X ct e fe) (hb : SE X ct e2 f2) (na : starEach [e, e2] X.env = (false, eval e X.env) :: starEach [e2] X.env := by rfl) (nb : starEach [e2] X.env = (false, eval e2 X.env) :: starEach [] X.env := by rfl) (hpl : (backTo pos (starEach [e2] X.env)).any (·.1) = false := by rfl) : SR X ct (.Call (.Name "range" p) [e, e2] [] pos) (fRg2 fe f2) := by
  intro pins s σ H Q I w
  refine prg_2 hg hm ha hb na nb hpl pins s σ H Q I ?_
  obtain ⟨ρ, M, env, r, he, q, M', hf, hq⟩ := w
  obtain ⟨d, M1, h1, hf⟩ := bnd_some hf
  obtain ⟨d2, M2, h2, hf⟩ := bnd_some hf
  refine ⟨ρ, M, env, r, he, d, M1, h1, fun ρ1 H1 e1 r1 v dv => ⟨ρ1, M1, env, r1, he.mono e1, d2, M2, h2, fun ρ2 H2 e2 r2 u du => ?_⟩⟩
  split at hf
  · cases hf; cases dv; cases du
    exact ⟨_, _, rfl, rfl, hq ρ2 H2 (e1.trans e2) r2⟩
  · cases hf
def fTupR (f : FR) : FE := fun env M => bnd (f env M) fun q M1 => if rgOk q.1 q.2 then some (.tup (rgD q.1 q.2), M1) else none
def fLstR (f : FR) : FE := fun env M => bnd (f env M) fun q M1 => if rgOk q.1 q.2 then some (.loc M1.length, M1 ++ [.lst (rgD q.1 q.2)]) else none
theorem pe_tupRF {te : L2.St → Hp → (Int → Int → Hp → Prop) → Prop} (hc : X.calm = true) (hg : Gl X "tuple") (hm : X.mg "tuple" = none) (he : PRg X e te) (na : starEach [e] X.env = (false, eval e X.env) :: starEach [] X.env := by rfl) :
    PE X (.Call (.Name "tuple" p) [e] [] pos) (fun σ H Q => te σ H fun a b H1 => RgOk a b ∧ ∀ q o, H1 q = none → o.dict = none → Q (.ref q) (upd H1 q (.frz o (.tup (rgV a b))))) := by
  refine ⟨fun pins s σ H Q I h => ?_⟩
  refine Call_ (ld_blt I hg hm boot_tuple (PyProof.Rows.callWith_type1 (args_cons (thn (he pins s σ H _ I h) fun x s1 z => args_nil ?_) na) na))
  obtain ⟨r, a, b, t, u, v, H1, rfl, hr, I1, ok, q⟩ := z
  obtain ⟨b1, b2, b3, b4, b5⟩ := ok
  refine call_tuple_range (n := (b - a).toNat) (I1.ok.hd hc) hr (small_one b1 b2 b3 b4) (rangeSize_nat a b) b5 fun h' tk acc hk hi => ?_
  have I2 : Inv X pins σ H1 { s1 with heap := h', toks := tk } := I1.kept hk
  have Z := layT (tk := tk) I2 (vals_rg hi) (by rw [rgV_length, sizeLine_eq]; omega)
  rw [Array.toArray_toList] at Z
  exact ⟨V.ref h'.objs.size, _, Z, rfl, q _ _ (I2.hok.fresh (Nat.le_refl _)) rfl⟩
theorem se_tupR {fq : FR} (hc : X.calm = true) (hg : Gl X "tuple") (hm : X.mg "tuple" = none) (he : SR X ct e fq) (na : starEach [e] X.env = (false, eval e X.env) :: starEach [] X.env := by rfl) : SE X ct (.Call (.Name "tuple" p) [e] [] pos) (fTupR fq) :=
  PE.imp (pe_tupRF hc hg hm he na) fun σ H Q ⟨ρ, M, env, r, hen, d, M', hf, hq⟩ => by
    obtain ⟨q, M1, h1, hf⟩ := bnd_some hf
    split at hf
    · rename_i hk
      cases hf
      exact ⟨ρ, M, env, r, hen, q, _, h1, fun ρ1 H1 e1 r1 => ⟨rgOk_of hk, fun p o hp ho => hq ρ1 _ (e1.trans (Ext.fresh hp)) (r1.tup hp _) _ (.tup (TupD.new ho) (dvs_rg _ _))⟩⟩
    · cases hf
theorem se_lstR {fq : FR} (hc : X.calm = true) (hg : Gl X "list") (hm : X.mg "list" = none) (he : SR X ct e fq) (na : starEach [e] X.env = (false, eval e X.env) :: starEach [] X.env := by rfl) : SE X ct (.Call (.Name "list" p) [e] [] pos) (fLstR fq) :=
  PE.imp (pe_listRg hc hg hm he na) fun σ H Q ⟨ρ, M, env, r, hen, d, M', hf, hq⟩ => by
    obtain ⟨q, M1, h1, hf⟩ := bnd_some hf
    split at hf
    · rename_i hk
      cases hf
      refine ⟨ρ, M, env, r, hen, q, _, h1, fun ρ1 H1 e1 r1 => ⟨rgOk_of hk, fun p hp => ?_⟩⟩
      obtain ⟨r2, e2, h2⟩ := r1.newL hp (dvs_rg q.1 q.2)
      exact hq _ _ (e1.trans e2) r2 _ (.loc h2)
    · cases hf
/-! ## two roads by what a value is -/
theorem PE.or {t t' : TE} (h : PE X e t) (h' : PE X e t') : PE X e (fun σ H Q => t σ H Q ∨ t' σ H Q) := ⟨fun pins s σ H Q I w => w.elim (h.run pins s σ H Q I) (h'.run pins s σ H Q I)⟩
theorem PG.or {t t' : TG} (h : PG X e t) (h' : PG X e t') : PG X e (fun v σ H Q => t v σ H Q ∨ t' v σ H Q) := ⟨fun pins s σ H v u Q I r w => w.elim (h.run pins s σ H v u Q I r) (h'.run pins s σ H v u Q I r)⟩
/-- f where it serves, else g -/
def fOr (f g : FE) : FE := fun env M => match f env M with
  | some y => some y
  | none => g env M
theorem se_or2 (h : SE X ct e fe) (h' : SE X ct e f2) : SE X ct e (fOr fe f2) :=
  PE.imp (PE.or h h') fun σ H Q ⟨ρ, M, env, r, he, d, M', hf, hq⟩ => by
    unfold fOr at hf
    split at hf
    · rename_i y hy
      cases hf
      exact .inl ⟨ρ, M, env, r, he, d, M', hy, hq⟩
    · exact .inr ⟨ρ, M, env, r, he, d, M', hf, hq⟩
def gOr (f g : FG) : FG := fun d env M => match f d env M with
  | some y => some y
  | none => g d env M
theorem sg_or2 {ws : List Nat} {f g : FG} (h : SG X ct ws e f) (h' : SG X ct ws e g) : SG X ct ws e (gOr f g) :=
  PG.imp (PG.or h h') fun v σ H Q ⟨ρ, M, env, d, r, he, dv, env', M', hf, hq⟩ => by
    unfold gOr at hf
    split at hf
    · rename_i y hy
      cases hf
      exact .inl ⟨ρ, M, env, d, r, he, dv, env', M', hy, hq⟩
    · exact .inr ⟨ρ, M, env, d, r, he, dv, env', M', hf, hq⟩
end
end Zl

/-! text Z12 -/
namespace Zl
open PySem L2 PySem.Spec PyProof.Rows
section
variable {X : Cx} {ct : Ct} {pos : Pos}
theorem sv_l {x : Str} (i : Nat) (hN : X.N[i]? = some x := by rfl) (hv : X.env.scope.names.lookup x = some .local := by exact rfl) (hd : (x == ("__debug__" : Str)) = false := by decide) (hcd : (x == ("__classdict__" : Str)) = false := by decide) : SE X ct (.Name x pos) (fV i) := se_var hN (.inl hv) hd hcd
theorem sv_c {x : Str} (i : Nat) (hN : X.N[i]? = some x := by rfl) (hv : X.env.scope.names.lookup x = some .cell := by exact rfl) (hd : (x == ("__debug__" : Str)) = false := by decide) (hcd : (x == ("__classdict__" : Str)) = false := by decide) : SE X ct (.Name x pos) (fV i) := se_var hN (.inr (.inl hv)) hd hcd
theorem sv_f {x : Str} (i : Nat) (hN : X.N[i]? = some x := by rfl) (hv : Vis X.env.scope x := by first | exact Or.inr (Or.inl rfl) | exact Or.inr (Or.inr rfl)) (hd : (x == ("__debug__" : Str)) = false := by decide) (hcd : (x == ("__classdict__" : Str)) = false := by decide) : SE X ct (.Name x pos) (fV i) := se_var hN hv hd hcd
theorem hu65 {k : Nat} {A : Around} (r : Room k A) : A.units + 65 < cLine := by have := r.un; omega
/-- a constant of the module -/
def GlobIs (K : Frg) (mg : Str → Option Value) (x : Str) (d : Dv) : Prop := ∃ (v : V) (u : Value), mg x = some u ∧ RelV v u ∧ ∀ ρ H, DV K ρ H d v
theorem se_globIs {x : Str} {d : Dv} (hg : Gl X x) (g : GlobIs X.K X.mg x d) (hd : (x == ("__debug__" : Str)) = false := by decide) : SE X ct (.Name x pos) (fK d) := by
  obtain ⟨v, u, h1, h2, h3⟩ := g
  exact se_glob hg h1 h2 h3 hd
def lcountD : FM
  | .loc n, [x], M => match M[n]? with
    | some (.lst ys) => if flatD x && ys.all flatD then some (.int (ys.countP fun y => eqF y x : Nat), M) else none
    | _ => none
  | _, _, _ => none
theorem sm_lcount : SM X ct "list.count" lcountD := by
  intro pins s σ H x xs v us Q I rx rxs w
  obtain ⟨ρ, M, d, ds, r, dx, dxs, z, M', hf, hq⟩ := w
  unfold lcountD at hf
  split at hf
  · split at hf
    · rename_i ys hm
      obtain ⟨a, vs, rfl, a1, a2, a3⟩ := r.lst hm dx
      obtain ⟨y, rfl, dy⟩ := dvs_one dxs
      obtain ⟨u, rfl, ru⟩ := vals1 rxs
      split at hf
      · rename_i hl
        rw [Bool.and_eq_true] at hl
        cases hf
        cases rx
        obtain ⟨ws, rw', ⟨⟨cls, dd, data, sl⟩, n, ho, hc, hc2, hd'⟩, hz⟩ := I.list (SqL.of a2)
        simp only at hc hc2 hd'
        subst hc hc2 hd'
        refine call_meets PySem.F.slot_list_count ⟨_, ho, rfl⟩ PySem.F.entry_list_count (PySem.F.args_list_count_2 _ _)
          (SeqAt.list_countAt _ ws.toArray n none sl u (eqU y)) ⟨ho, fun c hc => mem_eqAt ru (by rw [flat_of dy]; exact hl.1) rw' (by rw [flats_of a3]; exact hl.2) c (by simpa using hc), ?_⟩
        refine ⟨V.int (ws.countP (eqU y) : Nat), H, I.tok _, ⟨s.toks, rfl⟩, ?_⟩
        rw [count_eqU dy hl.1 a3 rw' hl.2]
        exact hq ρ H .refl r _ (.int _)
      · cases hf
    · cases hf
  · cases hf
end
end Zl

/-! text Z14 -/
namespace Zl
open PySem L2 PySem.Spec PyProof.Rows

/-! ## zip of two tuples, of two lists -/
def zipAt (xs ys : List Dv) (i : Nat) : Option Dv := match xs[i]?, ys[i]? with
  | some x, some y => some (.pr [x, y])
  | _, _ => none
def srcZ (M : Mem) : Dv → Dv → Option Src
  | .tup xs, .tup ys => some ⟨min xs.length ys.length, fun i _ => some (zipAt xs ys i)⟩
  | .loc m, .loc n => match M[m]?, M[n]? with
    | some (.lst xs), some (.lst ys) => some ⟨min xs.length ys.length, fun i M => match M[m]?, M[n]? with
      | some (.lst xs), some (.lst ys) => some (zipAt xs ys i)
      | _, _ => none⟩
    | _, _ => none
  | _, _ => none
def fZip (f g : FE) : FI := fun env M => bnd (f env M) fun d M1 => bnd (g env M1) fun e M2 => match srcZ M2 d e with
  | some s => some (s, M2)
  | none => none
section
variable {X : Cx} {ct : Ct} {e e2 : Expr} {elts : List Expr} {kk : Nat} {p pos tpos : Pos} {fe f2 : FE}
theorem feeds_zipT {K : Frg} {ρ0 : List Addr} {H0 : Hp} {a b : Addr} {xs ys : List Dv} {vs ws : List V} (hs : TupD K H0 a vs) (hd : DVs K ρ0 H0 xs vs) (hs' : TupD K H0 b ws) (hd' : DVs K ρ0 H0 ys ws) : Feeds K ct ρ0 H0 (RZ.ItzT K a b) (fun i _ => some (zipAt xs ys i)) := by
  intro i ρ M H x r
  dsimp only
  unfold zipAt
  cases q : xs[i]? with
  | none => exact ⟨vs, ws, (hs.mono x).sq, (hs'.mono x).sq, .inl (by rw [← hd.length]; exact List.getElem?_eq_none_iff.mp q)⟩
  | some d =>
    cases q' : ys[i]? with
    | none => exact ⟨vs, ws, (hs.mono x).sq, (hs'.mono x).sq, .inr (by rw [← hd'.length]; exact List.getElem?_eq_none_iff.mp q')⟩
    | some d' =>
      obtain ⟨v, h1, h2⟩ := hd.get q
      obtain ⟨v', h1', h2'⟩ := hd'.get q'
      refine ⟨⟨vs, ws, v, v', (hs.mono x).sq, (hs'.mono x).sq, h1, h1'⟩, fun y H' hy => ?_⟩
      obtain ⟨T, z, z', rfl, hT, rfl, hy, hy'⟩ := hy
      have e1 := hy vs (hs.mono x).sq
      rw [h1] at e1; cases e1
      have e2 := hy' ws (hs'.mono x).sq
      rw [h1'] at e2; cases e2
      exact ⟨Ext.fresh hT, r.tup hT _, .pr (SqT.of upd_same) (.cons ((h2.mono x).mono (Ext.fresh hT)) (.cons ((h2'.mono x).mono (Ext.fresh hT)) .nil))⟩
theorem feeds_zipL {K : Frg} {ρ0 : List Addr} {H0 : Hp} {a b : Addr} {m n : Nat} (hm : ρ0[m]? = some a) (hn : ρ0[n]? = some b) : Feeds K ct ρ0 H0 (Itz K a b) (fun i M => match M[m]?, M[n]? with
      | some (.lst xs), some (.lst ys) => some (zipAt xs ys i)
      | _, _ => none) := by
  intro i ρ M H x r
  dsimp only
  cases h1 : M[m]? with
  | none => trivial
  | some o =>
    cases o with
    | ins c fs => trivial
    | dct kvs => trivial
    | dcn kvs => trivial
    | st xs => trivial
    | sk xs => trivial
    | lck => trivial
    | lckN kvs => trivial
    | lst xs =>
      cases h2 : M[n]? with
      | none => trivial
      | some o2 =>
        cases o2 with
        | ins c fs => trivial
        | dct kvs => trivial
        | dcn kvs => trivial
        | st xs => trivial
        | sk xs => trivial
        | lck => trivial
        | lckN kvs => trivial
        | lst ys =>
          obtain ⟨a', vs, ea, a1, a2, a3⟩ := r.lst h1 (.loc (x.pre m a hm))
          cases ea
          obtain ⟨b', ws, eb, b1, b2, b3⟩ := r.lst h2 (.loc (x.pre n b hn))
          cases eb
          show (match some (zipAt xs ys i) with | some (some d) => _ | some none => _ | none => _)
          unfold zipAt
          cases q : xs[i]? with
          | none => exact ⟨vs, ws, SqL.of a2, SqL.of b2, .inl (by rw [← a3.length]; exact List.getElem?_eq_none_iff.mp q)⟩
          | some d =>
            cases q' : ys[i]? with
            | none => exact ⟨vs, ws, SqL.of a2, SqL.of b2, .inr (by rw [← b3.length]; exact List.getElem?_eq_none_iff.mp q')⟩
            | some d' =>
              obtain ⟨v, g1, g2⟩ := a3.get q
              obtain ⟨v', g1', g2'⟩ := b3.get q'
              refine ⟨⟨vs, ws, v, v', SqL.of a2, SqL.of b2, g1, g1'⟩, fun y H' hy => ?_⟩
              obtain ⟨T, z, z', rfl, hT, rfl, hy, hy'⟩ := hy
              have e1 := hy vs (SqL.of a2)
              rw [g1] at e1; cases e1
              have e2 := hy' ws (SqL.of b2)
              rw [g1'] at e2; cases e2
              exact ⟨Ext.fresh hT, r.tup hT _, .pr (SqT.of upd_same) (.cons (g2.mono (Ext.fresh hT)) (.cons (g2'.mono (Ext.fresh hT)) .nil))⟩
theorem si_zip (hg : Gl X "zip") (hm : X.mg "zip" = none) (h : SE X ct e fe) (h2 : SE X ct e2 f2) (hs1 : starEach [e, e2] X.env = (false, eval e X.env) :: starEach [e2] X.env := by rfl) (hs2 : starEach [e2] X.env = [(false, eval e2 X.env)] := by rfl)
    (hpl : (backTo pos (starEach [e2] X.env)).any (·.1) = false := by rfl) : SI X ct (.Tuple elts kk tpos) (.Call (.Name "zip" p) [e, e2] [] pos) (fZip fe f2) := by
  refine PI.imp (RZ.pi_zipA hg hm (sa_cons h (sa_cons h2 sa_nil hs2) hs1) hs1 hpl) fun σ H R ⟨ρ, M, env, r, he, src, M', hf, hq⟩ => ?_
  obtain ⟨d, M1, h1, hf⟩ := bnd_some hf
  obtain ⟨d2, M2, h2, hf⟩ := bnd_some hf
  split at hf
  · rename_i s0 hs
    cases hf
    refine ⟨ρ, M, env, r, he, [d, d2], M', by show bnd (fe env M) _ = _; rw [h1]; show bnd (bnd (f2 env M1) _) _ = _; rw [h2]; rfl, fun ρ1 H1 e1 r1 vs dvs => ?_⟩
    obtain ⟨u, u', rfl, q1, q2⟩ := dvs_two dvs
    unfold srcZ at hs
    split at hs
    · cases hs
      cases q1 with
      | tup hs1 hd1 =>
        cases q2 with
        | tup hs2 hd2 => exact ⟨_, _, _, _, rfl, .inr ⟨hs1.sq, hs2.sq, hq ρ1 H1 e1 r1 _ (feeds_zipT hs1 hd1 hs2 hd2)⟩⟩
    · split at hs
      · rename_i g1 g2
        cases hs
        obtain ⟨a, ws, rfl, a1, a2, a3⟩ := r1.lst g1 q1
        obtain ⟨b, ws2, rfl, b1, b2, b3⟩ := r1.lst g2 q2
        exact ⟨_, _, _, _, rfl, .inl ⟨SqL.of a2, SqL.of b2, hq ρ1 H1 e1 r1 _ (feeds_zipL a1 b1)⟩⟩
      · cases hs
    · cases hs
  · cases hf
end
end Zl

/-! text Z15 -/
namespace Zl
open PySem L2 PySem.Spec PyProof.Rows
section
variable {X : Cx} {ct : Ct}
/-- repr of flat values, too -/
def reprE : List Dv → Mem → Rz
  | [.bl b], M => some (.str (if b then "True" else "False"), M)
  | [.non], M => some (.str "None", M)
  | [.str x], M => if (reprText x).length ≤ sizeLine then some (.str (reprText x), M) else none
  | ds, M => reprD ds M
theorem sc_reprE (hg : X.A.guards = some []) (hu : X.A.units + 64 < cLine) : SC X ct (.builtin "repr") reprE := by
  intro pins s σ H xs us Q I rv h
  obtain ⟨ρ, M, ds, r, dv, z, M', hf, hq⟩ := h
  unfold reprE at hf
  split at hf
  · cases hf
    obtain ⟨v, rfl, d1⟩ := dvs_one dv
    cases d1
    obtain ⟨u, rfl, ru⟩ := vals1 rv
    cases ru
    exact PySem.P.repr_of_bool ⟨.str _, H, I.tok _, ⟨_, rfl⟩, hq ρ H .refl r _ (.str _)⟩
  · cases hf
    obtain ⟨v, rfl, d1⟩ := dvs_one dv
    cases d1
    obtain ⟨u, rfl, ru⟩ := vals1 rv
    cases ru
    exact PySem.P.repr_of_none ⟨.str _, H, I.tok _, ⟨_, rfl⟩, hq ρ H .refl r _ (.str _)⟩
  · split at hf
    · rename_i hl
      cases hf
      obtain ⟨v, rfl, d1⟩ := dvs_one dv
      cases d1
      obtain ⟨u, rfl, t, rfl⟩ := vals1 rv
      exact PySem.P.repr_of_str ⟨.str _, H, I.tok _, ⟨_, rfl⟩, hq ρ H .refl r _ (.str _)⟩ hl
    · cases hf
  · exact sc_repr hg hu pins s σ H xs us Q I rv ⟨ρ, M, ds, r, dv, z, M', hf, hq⟩
/-- is None, is True, is False -/
def isE (neg : Bool) : Dv → Dv → Mem → Rz
  | .bl a, .bl b, M => some (.bl (xor neg (decide (a = b))), M)
  | d, e, M => isD neg d e M
theorem so_isE : SO X ct (compareOp .Is) (isE false) := by
  intro pins s σ H x y v u Q I rx ry h
  obtain ⟨ρ, M, d, e, r, dx, dy, z, M', hf, hq⟩ := h
  unfold isE at hf
  split at hf
  · cases hf; cases dx; cases dy
    exact op_isBl pins s σ H _ _ v u Q I rx ry ⟨_, _, rfl, rfl, hq ρ H .refl r _ (by rw [Bool.false_xor]; exact .bl _)⟩
  · exact so_is pins s σ H x y v u Q I rx ry ⟨ρ, M, _, _, r, dx, dy, z, M', hf, hq⟩
theorem so_isnotE : SO X ct (compareOp .IsNot) (isE true) := by
  intro pins s σ H x y v u Q I rx ry h
  obtain ⟨ρ, M, d, e, r, dx, dy, z, M', hf, hq⟩ := h
  unfold isE at hf
  split at hf
  · cases hf; cases dx; cases dy
    exact op_notBl pins s σ H _ _ v u Q I rx ry ⟨_, _, rfl, rfl, hq ρ H .refl r _ (by rw [Bool.true_xor]; exact .bl _)⟩
  · exact so_isnot pins s σ H x y v u Q I rx ry ⟨ρ, M, _, _, r, dx, dy, z, M', hf, hq⟩
end
end Zl

/-! text Z16 -/
namespace Zl
open PySem L2 PySem.Spec PyProof.Rows
section
variable {X : Cx} {ct : Ct}
def signsD (x : Str) : List Dv := x.cps.toList.map fun c => .str ⟨#[c]⟩
def signsV (x : Str) : List V := x.cps.toList.map fun c => .str ⟨#[c]⟩
theorem dvs_signs {K : Frg} {ρ : List Addr} {H : Hp} : ∀ cs : List Nat, DVs K ρ H (cs.map fun c => Dv.str ⟨#[c]⟩) (cs.map fun c => V.str ⟨#[c]⟩)
  | [] => .nil
  | c :: cs => .cons (.str _) (dvs_signs cs)
/-- list(text), too -/
def lstE : List Dv → Mem → Rz
  | [.str x], M => if x.cps.size ≤ sizeLine then some (.loc M.length, M ++ [.lst (signsD x)]) else none
  | ds, M => lstD ds M
theorem sc_listE (hc : X.calm = true) : SC X ct (.type "list") lstE := by
  intro pins s σ H xs us Q I rv h
  obtain ⟨ρ, M, ds, r, dv, z, M', hf, hq⟩ := h
  unfold lstE at hf
  split at hf
  · rename_i a0 b0 x
    split at hf
    · rename_i hl
      cases hf
      obtain ⟨v, rfl, d1⟩ := dvs_one dv
      cases d1
      obtain ⟨u, rfl, t, rfl⟩ := vals1 rv
      refine call_list_str (I.ok.hd hc) x t (fun h' tk acc' c' hkeep hS hacc => ?_) hl
      obtain ⟨r2, e2, h2⟩ := r.newL (I.hok.fresh (Nat.le_refl s.heap.objs.size)) (dvs_signs (K := X.K) (ρ := ρ) (H := H) x.cps.toList)
      refine ⟨.ref s.heap.objs.size, upd H s.heap.objs.size (.lst (signsV x)), I.laid hkeep (Nat.le_refl _) (show ObjOk X.prog X.w _ _ _ (.lst (signsV x)) from ⟨?_, acc'.toList, c', ?_, ?_⟩), rfl, hq _ _ e2 r2 _ (.loc h2)⟩
      · unfold signsV; rw [List.length_map]; simpa using hl
      · have el : acc'.toList.length = acc'.size := by simp
        refine vals_of_at (by unfold signsV; rw [List.length_map, el, hacc.1]; simp) fun j y w h1 h2 => ?_
        have := hacc.2 j w (by rw [← Array.getElem?_toList]; exact h2)
        obtain ⟨c, t', hc', rfl⟩ := this
        unfold signsV at h1
        rw [List.getElem?_map, Array.getElem?_toList, hc'] at h1
        simp at h1
        subst h1
        exact ⟨t', rfl⟩
      · simpa using hS
    · cases hf
  · exact sc_list pins s σ H xs us Q I rv ⟨ρ, M, ds, r, dv, z, M', hf, hq⟩
end
end Zl

/-! text ZN -/
namespace Zl
open PySem L2 PySem.Spec PyProof.Rows

/-! ## dicts whose keys are nested tuples -/
def valN (kvs : List (NestedKey × Dv × Dv)) (k : NestedKey) : Option Dv := (kvs.find? fun kv => decide (kv.1 = k)).map (·.2.2)
def putN (kvs : List (NestedKey × Dv × Dv)) (k : NestedKey) (kd v : Dv) : List (NestedKey × Dv × Dv) :=
  if (valN kvs k).isSome then kvs.map (fun kv => if kv.1 = k then (kv.1, kv.2.1, v) else kv) else kvs ++ [(k, kd, v)]
section
variable {X : Cx} {ct : Ct} {ρ : List Addr} {H : Hp} {M : Mem} {pins : List (Addr × Obj)} {σ : L2.St} {s : Shared}
theorem nest_all {n : Nat} (I : L2.Inv X pins σ H s) (ih : ∀ {d : Dv} {v : V} {u : Value} {k : NestedKey}, DV X.K ρ H d v → RelV v u → nkN n d = some k → NestedIs s.heap k u ∧ k.depth ≤ n) :
    ∀ {ds : List Dv} {vs : List V} {us : List Value} {ks : List NestedKey}, DVs X.K ρ H ds vs → Vals vs us → nkL (nkN n) ds = some ks → NestedAll s.heap ks us ∧ NestedKey.depthAll ks ≤ n
  | [], _, _, ks, h, r, e => by
    cases h
    cases r
    cases e
    exact ⟨.nil, Nat.zero_le _⟩
  | d :: ds, _, _, ks, h, r, e => by
    cases h with
    | cons h1 h2 =>
      cases r with
      | cons r1 r2 =>
        unfold nkL at e
        split at e
        · rename_i k hk
          split at e
          · rename_i ks' hks
            cases e
            obtain ⟨a1, a2⟩ := ih h1 r1 hk
            obtain ⟨b1, b2⟩ := nest_all I ih h2 r2 hks
            exact ⟨.cons a1 b1, by unfold NestedKey.depthAll; exact Nat.max_le.mpr ⟨a2, b2⟩⟩
          · cases e
        · cases e
theorem nest_is (I : L2.Inv X pins σ H s) : ∀ (n : Nat) {d : Dv} {v : V} {u : Value} {k : NestedKey}, DV X.K ρ H d v → RelV v u → nkN n d = some k → NestedIs s.heap k u ∧ k.depth ≤ n := by
  intro n
  induction n with
  | zero =>
    intro d v u k h r e
    cases h with
    | non => cases e; cases r; exact ⟨.none, Nat.zero_le _⟩
    | bl b => cases e; cases r; exact ⟨.bool rfl, Nat.zero_le _⟩
    | int i => cases e; obtain ⟨t, rfl⟩ := r; exact ⟨.int _ _, Nat.zero_le _⟩
    | str x => cases e; obtain ⟨t, rfl⟩ := r; exact ⟨.text _ _, Nat.zero_le _⟩
    | _ => cases e
  | succ n ih =>
    intro d v u k h r e
    cases h with
    | non => cases e; cases r; exact ⟨.none, Nat.zero_le _⟩
    | bl b => cases e; cases r; exact ⟨.bool rfl, Nat.zero_le _⟩
    | int i => cases e; obtain ⟨t, rfl⟩ := r; exact ⟨.int _ _, Nat.zero_le _⟩
    | str x => cases e; obtain ⟨t, rfl⟩ := r; exact ⟨.text _ _, Nat.zero_le _⟩
    | tup hs hd =>
      unfold nkN at e
      split at e
      · rename_i ks hks
        cases e
        cases r
        obtain ⟨its, rv, ⟨o, ho, hc, m, hdt⟩, _⟩ := I.tuple hs.sq
        obtain ⟨a1, a2⟩ := nest_all I ih hd rv hks
        exact ⟨.tup ho hc hdt (by simpa using a1), by unfold NestedKey.depth; omega⟩
      · cases e
    | _ => cases e
/-- a tuple that is a key stands somewhere -/
theorem key_is (I : L2.Inv X pins σ H s) {d : Dv} {v : V} {u : Value} {k : NestedKey} (h : DV X.K ρ H d v) (r : RelV v u) (e : keyN d = some k) : ∃ b, v = .ref b ∧ u = .ref b ∧ (nestedKind X.prog X.w).is s.heap k b := by
  unfold keyN at e
  split at e
  · have z := nest_is I 8 h r e
    cases h with
    | tup hs hd =>
      cases r
      exact ⟨_, rfl, rfl, z⟩
  · cases h with
    | pr hs hd =>
      cases r
      unfold nkN at e
      split at e
      · rename_i ks hks
        cases e
        obtain ⟨its, rv, ⟨o, ho, hc, m, hdt⟩, _⟩ := I.tuple hs
        obtain ⟨a1, a2⟩ := nest_all I (fun h r e => nest_is I 7 h r e) hd rv hks
        exact ⟨_, rfl, rfl, .tup ho hc hdt (by simpa using a1), by unfold NestedKey.depth; omega⟩
      · cases e
  · cases e
theorem Rl.dcn {K : Frg} (r : Rl K ct ρ M H) {n : Nat} {kvs : List (NestedKey × Dv × Dv)} (hm : M[n]? = some (.dcn kvs)) {v : V} (hv : DV K ρ H (.loc n) v) :
    ∃ a xs vs, v = .ref a ∧ ρ[n]? = some a ∧ H a = some (NDic ct.prg ct.wd a xs) ∧ kvs.map (·.1) = xs.map (·.1) ∧ (∀ p ∈ kvs, keyN p.2.1 = some p.1) ∧
      DVs K ρ H (kvs.map (·.2.1)) (xs.map fun x => V.ref x.2.1) ∧ DVs K ρ H (kvs.map (·.2.2)) vs ∧ Vals vs (xs.map (·.2.2)) := by
  obtain ⟨a, h1, xs, vs, h2⟩ := r.ok n _ hm
  cases hv with
  | loc h => rw [h] at h1; cases h1; exact ⟨_, xs, vs, rfl, h, h2⟩
theorem keys_are (I : L2.Inv X pins σ H s) : ∀ {kvs : List (NestedKey × Dv × Dv)} {xs : List (NestedKey × Addr × Value)}, kvs.map (·.1) = xs.map (·.1) → (∀ p ∈ kvs, keyN p.2.1 = some p.1) → DVs X.K ρ H (kvs.map (·.2.1)) (xs.map fun x => V.ref x.2.1) →
    ∀ x ∈ xs, (nestedKind X.prog X.w).is s.heap x.1 x.2.1
  | [], [], _, _, _ => fun x hx => by simp at hx
  | [], _ :: _, e, _, _ => by cases e
  | _ :: _, [], e, _, _ => by cases e
  | p :: kvs, q :: xs, e, hk, h => by
    simp only [List.map_cons, List.cons.injEq] at e
    cases h with
    | cons h1 h2 =>
      intro x hx
      rcases List.mem_cons.mp hx with rfl | hx
      · obtain ⟨b, e1, e2, z⟩ := key_is I h1 (show RelV (.ref x.2.1) (.ref x.2.1) from rfl) (hk p (List.mem_cons_self ..))
        cases e1
        rw [← e.1]; exact z
      · exact keys_are I e.2 (fun y hy => hk y (List.mem_cons_of_mem _ hy)) h2 x hx
/-- the dict in the heap -/
theorem dn_of (I : L2.Inv X pins σ H s) (hp : ct.prg = X.prog) (hw : ct.wd = X.w) {a : Addr} {kvs : List (NestedKey × Dv × Dv)} {xs : List (NestedKey × Addr × Value)} (h : H a = some (NDic ct.prg ct.wd a xs)) (h1 : kvs.map (·.1) = xs.map (·.1))
    (h2 : ∀ p ∈ kvs, keyN p.2.1 = some p.1) (h3 : DVs X.K ρ H (kvs.map (·.2.1)) (xs.map fun x => V.ref x.2.1)) : s.heap.DictOfH (nestedKind X.prog X.w) a xs ∧ xs.length ≤ sizeLine ∧ (a == sysModules) = false := by
  rw [hp, hw] at h
  obtain ⟨o, es, ep, g1, g2, g3, g4, g5, g6, g7⟩ := (I.hok a _ h).1
  exact ⟨⟨o, es, ep, g1, g2, g3, g4, keys_are I h1 h2 h3, g5⟩, g6, g7⟩
theorem ndic_new {P : Program} {w : World} {h : Heap} {a : Addr} {xs : List (NestedKey × Addr × Value)} (d : h.DictOfH (nestedKind P w) a xs) (z : xs.length ≤ sizeLine) (hs : (a == sysModules) = false) : ObjOk P w H h a (NDic P w a xs) := by
  obtain ⟨o, es, ep, g1, g2, g3, g4, _, g5⟩ := d
  refine ⟨⟨o, es, ep, g1, g2, g3, g4, g5, z, hs⟩, ⟨o, g1⟩, fun h1 h2 p k => ?_⟩
  obtain ⟨o, es, ep, g1, r⟩ := p
  exact ⟨o, es, ep, k o g1, r⟩
/-- an empty dict is one with such keys, too -/
theorem dn_empty (I : L2.Inv X pins σ H s) {a : Addr} (h : H a = some (.dK [])) : s.heap.DictOfH (nestedKind X.prog X.w) a [] ∧ (a == sysModules) = false := by
  obtain ⟨_, hd, vs, r, dd⟩ := dk_of I.hok h
  cases r
  obtain ⟨o, es, ep, g1, g2, g3, g4, g5, g6⟩ := dd
  refine ⟨⟨o, es, ep, g1, g2, g3, ?_, fun x hx => by simp at hx, List.nodup_nil⟩, hd⟩
  cases hes : es.toList with
  | nil => rfl
  | cons e r =>
    rw [hes] at g5
    cases g5
theorem val_ofN {K : Frg} {k : NestedKey} : ∀ {kvs : List (NestedKey × Dv × Dv)} {xs : List (NestedKey × Addr × Value)} {vs : List V}, kvs.map (·.1) = xs.map (·.1) → DVs K ρ H (kvs.map (·.2.2)) vs → Vals vs (xs.map (·.2.2)) →
    (∀ d, valN kvs k = some d → ∃ p v, atKey xs k = some p ∧ DV K ρ H d v ∧ RelV v p.2) ∧ (valN kvs k = none → atKey xs k = none)
  | [], [], _, _, _, _ => ⟨fun d e => (by cases e), fun _ => rfl⟩
  | [], _ :: _, _, e, _, _ => by cases e
  | _ :: _, [], _, e, _, _ => by cases e
  | p :: kvs, q :: xs, _, e, h, r => by
    simp only [List.map_cons, List.cons.injEq] at e
    cases h with
    | cons h1 h2 =>
      cases r with
      | cons r1 r2 =>
        obtain ⟨i1, i2⟩ := val_ofN (k := k) e.2 h2 r2
        unfold valN atKey
        rw [List.find?_cons, List.find?_cons]
        by_cases z : p.1 = k
        · rw [decide_eq_true z, decide_eq_true (e.1 ▸ z)]
          exact ⟨fun d ed => ⟨_, _, rfl, by simp at ed; rw [← ed]; exact h1, r1⟩, fun ed => by simp at ed⟩
        · rw [decide_eq_false z, decide_eq_false (fun y => z (e.1.trans y))]
          exact ⟨i1, i2⟩
theorem some_ofN {K : Frg} {k : NestedKey} {kvs : List (NestedKey × Dv × Dv)} {xs : List (NestedKey × Addr × Value)} {vs : List V} (e : kvs.map (·.1) = xs.map (·.1)) (h : DVs K ρ H (kvs.map (·.2.2)) vs) (r : Vals vs (xs.map (·.2.2))) : (atKey xs k).isSome = (valN kvs k).isSome := by
  obtain ⟨i1, i2⟩ := val_ofN (k := k) e h r
  cases z : valN kvs k with
  | none => rw [i2 z]; rfl
  | some d => obtain ⟨p, v, e2, _⟩ := i1 d z; rw [e2]; rfl
theorem Vals.app {vs ws : List V} {us ts : List Value} (h : Vals vs us) (h' : Vals ws ts) : Vals (vs ++ ws) (us ++ ts) := h.append h'
/-- the store -/
theorem map_putN {K : Frg} {k : NestedKey} {d : Dv} {v : V} {u : Value} (hd : DV K ρ H d v) (hu : RelV v u) : ∀ {kvs : List (NestedKey × Dv × Dv)} {xs : List (NestedKey × Addr × Value)} {vs : List V}, kvs.map (·.1) = xs.map (·.1) → DVs K ρ H (kvs.map (·.2.2)) vs → Vals vs (xs.map (·.2.2)) →
    ∃ ws, (kvs.map fun kv => if kv.1 = k then (kv.1, kv.2.1, d) else kv).map (·.1) = (xs.map (putAt k u)).map (·.1) ∧ (kvs.map fun kv => if kv.1 = k then (kv.1, kv.2.1, d) else kv).map (·.2.1) = kvs.map (·.2.1) ∧
      ((xs.map (putAt k u)).map fun x => V.ref x.2.1) = (xs.map fun x => V.ref x.2.1) ∧ DVs K ρ H ((kvs.map fun kv => if kv.1 = k then (kv.1, kv.2.1, d) else kv).map (·.2.2)) ws ∧ Vals ws ((xs.map (putAt k u)).map (·.2.2))
  | [], [], _, _, h, r => by cases h; exact ⟨[], rfl, rfl, rfl, .nil, .nil⟩
  | [], _ :: _, _, e, _, _ => by cases e
  | _ :: _, [], _, e, _, _ => by cases e
  | p :: kvs, q :: xs, _, e, h, r => by
    simp only [List.map_cons, List.cons.injEq] at e
    cases h with
    | cons h1 h2 =>
      cases r with
      | cons r1 r2 =>
        rename_i v0 vs0
        obtain ⟨ws, i1, i2, i3, i4, i5⟩ := map_putN (k := k) hd hu e.2 h2 r2
        simp only [List.map_cons]
        by_cases z : p.1 = k
        · have z2 : q.1 = k := e.1 ▸ z
          refine ⟨v :: ws, ?_, ?_, ?_, ?_, ?_⟩
          · rw [if_pos z, i1]; unfold putAt; rw [if_pos z2, e.1]
          · rw [if_pos z, i2]
          · rw [i3]; unfold putAt; rw [if_pos z2]
          · rw [if_pos z]; exact .cons hd i4
          · unfold putAt; rw [if_pos z2]; exact .cons hu i5
        · have z2 : ¬ q.1 = k := fun y => z (e.1.trans y)
          refine ⟨v0 :: ws, ?_, ?_, ?_, ?_, ?_⟩
          · rw [if_neg z, i1]; unfold putAt; rw [if_neg z2, e.1]
          · rw [if_neg z, i2]
          · rw [i3]; unfold putAt; rw [if_neg z2]
          · rw [if_neg z]; exact .cons h1 i4
          · unfold putAt; rw [if_neg z2]; exact .cons r1 i5
theorem put_ofN {K : Frg} {k : NestedKey} {kd d : Dv} {b : Addr} {v : V} {u : Value} {kvs : List (NestedKey × Dv × Dv)} {xs : List (NestedKey × Addr × Value)} {vs : List V} (hk : keyN kd = some k) (hkd : DV K ρ H kd (.ref b)) (hd : DV K ρ H d v) (hu : RelV v u)
    (h1 : kvs.map (·.1) = xs.map (·.1)) (h2 : ∀ p ∈ kvs, keyN p.2.1 = some p.1) (h3 : DVs K ρ H (kvs.map (·.2.1)) (xs.map fun x => V.ref x.2.1)) (h4 : DVs K ρ H (kvs.map (·.2.2)) vs) (h5 : Vals vs (xs.map (·.2.2))) :
    ∃ ws, (putN kvs k kd d).map (·.1) = (storedH xs k b u).map (·.1) ∧ (∀ p ∈ putN kvs k kd d, keyN p.2.1 = some p.1) ∧ DVs K ρ H ((putN kvs k kd d).map (·.2.1)) ((storedH xs k b u).map fun x => V.ref x.2.1) ∧
      DVs K ρ H ((putN kvs k kd d).map (·.2.2)) ws ∧ Vals ws ((storedH xs k b u).map (·.2.2)) := by
  unfold putN storedH
  rw [some_ofN h1 h4 h5]
  cases z : (valN kvs k).isSome with
  | true =>
    rw [if_pos rfl, if_pos rfl]
    obtain ⟨ws, i1, i2, i3, i4, i5⟩ := map_putN (k := k) hd hu h1 h4 h5
    refine ⟨ws, i1, fun p hp => ?_, ?_, i4, i5⟩
    · obtain ⟨q, hq, rfl⟩ := List.mem_map.mp hp
      split
      · exact h2 q hq
      · exact h2 q hq
    · rw [i2, i3]; exact h3
  | false =>
    rw [if_neg (by decide), if_neg (by decide)]
    refine ⟨vs ++ [v], ?_, fun p hp => ?_, ?_, ?_, ?_⟩
    · rw [List.map_append, List.map_append, h1]; rfl
    · rcases List.mem_append.mp hp with y | y
      · exact h2 p y
      · rw [List.mem_singleton.mp y]; exact hk
    · rw [List.map_append, List.map_append]; exact h3.append (.cons hkd .nil)
    · rw [List.map_append]; exact h4.append (.cons hd .nil)
    · rw [List.map_append]; exact h5.append (.cons hu .nil)
end
end Zl

/-! text Z17 -/
namespace Zl
open PySem L2 PySem.Spec PyProof.Rows

/-! ## dicts whose keys are ints and texts -/
def keyD : Dv → Option Key
  | .int i => some (.inl i)
  | .str x => some (.inr x)
  | _ => none
def valD (kvs : List (Key × Dv)) (k : Key) : Option Dv := (kvs.find? fun kv => decide (kv.1 = k)).map (·.2)
def putDk (kvs : List (Key × Dv)) (k : Key) (v : Dv) : List (Key × Dv) :=
  if (kvs.any fun kv => decide (kv.1 = k)) = true then kvs.map (fun kv => if kv.1 = k then (kv.1, v) else kv) else kvs ++ [(k, v)]
section
variable {K : Frg} {ρ : List Addr} {H : Hp}
theorem keyD_of {d : Dv} {v : V} {k : Key} (h : DV K ρ H d v) (e : keyD d = some k) : v = kV k := by
  cases h <;> cases e <;> rfl
/-- what is found, what is not -/
theorem val_of {k : Key} : ∀ {kvs : List (Key × Dv)} {vs : List (Key × V)}, kvs.map (·.1) = vs.map (·.1) → DVs K ρ H (kvs.map (·.2)) (vs.map (·.2)) →
    (∀ d, valD kvs k = some d → ∃ v, valV vs k = some v ∧ DV K ρ H d v) ∧ (valD kvs k = none → valV vs k = none)
  | [], [], _, _ => ⟨fun d e => (by cases e), fun _ => rfl⟩
  | [], _ :: _, e, _ => by cases e
  | _ :: _, [], e, _ => by cases e
  | p :: kvs, q :: vs, e, h => by
    simp only [List.map_cons, List.cons.injEq] at e
    cases h with
    | cons h1 hr =>
      obtain ⟨i1, i2⟩ := val_of (k := k) e.2 hr
      unfold valD
      rw [List.find?_cons]
      by_cases z : p.1 = k
      · rw [decide_eq_true z]
        rw [valV_pos (e.1 ▸ z)]
        exact ⟨fun d ed => ⟨q.2, rfl, by simp at ed; rw [← ed]; exact h1⟩, fun ed => by simp at ed⟩
      · rw [decide_eq_false z]
        rw [valV_neg (fun y => z (e.1.trans y))]
        exact ⟨i1, i2⟩
theorem any_of_keys {k : Key} : ∀ {kvs : List (Key × Dv)} {vs : List (Key × V)}, kvs.map (·.1) = vs.map (·.1) → (kvs.any fun kv => decide (kv.1 = k)) = vs.any fun kv => decide (kv.1 = k)
  | [], [], _ => rfl
  | [], _ :: _, e => by cases e
  | _ :: _, [], e => by cases e
  | p :: kvs, q :: vs, e => by
    simp only [List.map_cons, List.cons.injEq] at e
    rw [List.any_cons, List.any_cons, any_of_keys e.2, e.1]
theorem map_put {k : Key} {x : Dv} {u : V} (hx : DV K ρ H x u) : ∀ {kvs : List (Key × Dv)} {vs : List (Key × V)}, kvs.map (·.1) = vs.map (·.1) → DVs K ρ H (kvs.map (·.2)) (vs.map (·.2)) →
    (kvs.map fun kv => if kv.1 = k then (kv.1, x) else kv).map (·.1) = (vs.map fun kv => if kv.1 = k then (kv.1, u) else kv).map (·.1) ∧
    DVs K ρ H ((kvs.map fun kv => if kv.1 = k then (kv.1, x) else kv).map (·.2)) ((vs.map fun kv => if kv.1 = k then (kv.1, u) else kv).map (·.2))
  | [], [], _, _ => ⟨rfl, .nil⟩
  | [], _ :: _, e, _ => by cases e
  | _ :: _, [], e, _ => by cases e
  | p :: kvs, q :: vs, e, h => by
    simp only [List.map_cons, List.cons.injEq] at e
    cases h with
    | cons h1 hr =>
      obtain ⟨i1, i2⟩ := map_put (k := k) hx e.2 hr
      simp only [List.map_cons, List.cons.injEq]
      by_cases z : p.1 = k
      · rw [if_pos z, if_pos (e.1 ▸ z)]
        exact ⟨⟨e.1, i1⟩, .cons hx i2⟩
      · rw [if_neg z, if_neg (fun y => z (e.1.trans y))]
        exact ⟨⟨e.1, i1⟩, .cons h1 i2⟩
theorem put_of {k : Key} {x : Dv} {u : V} {kvs : List (Key × Dv)} {vs : List (Key × V)} (hx : DV K ρ H x u) (e : kvs.map (·.1) = vs.map (·.1)) (h : DVs K ρ H (kvs.map (·.2)) (vs.map (·.2))) :
    (putDk kvs k x).map (·.1) = (putK vs k u).map (·.1) ∧ DVs K ρ H ((putDk kvs k x).map (·.2)) ((putK vs k u).map (·.2)) := by
  unfold putDk putK
  rw [any_of_keys e]
  split
  · exact map_put hx e h
  · rw [List.map_append, List.map_append, List.map_append, List.map_append, e]
    exact ⟨rfl, h.append (.cons hx .nil)⟩
theorem Rl.dct {ct : Ct} {M : Mem} (r : Rl K ct ρ M H) {n : Nat} {kvs : List (Key × Dv)} (hm : M[n]? = some (.dct kvs)) {v : V} (hv : DV K ρ H (.loc n) v) :
    ∃ a vs, v = .ref a ∧ ρ[n]? = some a ∧ H a = some (.dK vs) ∧ kvs.map (·.1) = vs.map (·.1) ∧ DVs K ρ H (kvs.map (·.2)) (vs.map (·.2)) := by
  obtain ⟨a, h1, vs, h2, h3, h4⟩ := r.ok n _ hm
  cases hv with
  | loc h => rw [h] at h1; cases h1; exact ⟨_, vs, rfl, h, h2, h3, h4⟩
end
theorem Rl.st {K : Frg} {ρ : List Addr} {H : Hp} {ct : Ct} {M : Mem} (r : Rl K ct ρ M H) {n : Nat} {xs : List Int} (hm : M[n]? = some (.st xs)) {v : V} (hv : DV K ρ H (.loc n) v) :
    ∃ a, v = .ref a ∧ ρ[n]? = some a ∧ H a = some (.set (fun k => xs.any (· == k)) xs.length) := by
  obtain ⟨a, h1, h2⟩ := r.ok n _ hm
  cases hv with
  | loc h => rw [h] at h1; cases h1; exact ⟨_, rfl, h, h2⟩
theorem Rl.sk {K : Frg} {ρ : List Addr} {H : Hp} {ct : Ct} {M : Mem} (r : Rl K ct ρ M H) {n : Nat} {xs : List Str} (hm : M[n]? = some (.sk xs)) {v : V} (hv : DV K ρ H (.loc n) v) :
    ∃ a, v = .ref a ∧ ρ[n]? = some a ∧ H a = some (SetK ct.prg ct.wd a (fun k => xs.any fun x => decide (k = Sum.inr x)) xs.length) := by
  obtain ⟨a, h1, h2⟩ := r.ok n _ hm
  cases hv with
  | loc h => rw [h] at h1; cases h1; exact ⟨_, rfl, h, h2⟩
section
variable {X : Cx} {ct : Ct} {pos : Pos} {e o i' : Expr} {fo fe fi : FE}
/-- {} -/
def fDNew : FE := fun _ M => some (.loc M.length, M ++ [.dct []])
theorem se_dnew : SE X ct (.Dict [] [] pos) fDNew := PE.imp pe_dnewK fun σ H Q ⟨ρ, M, env, r, he, d, M', hf, hq⟩ p hp => by
  cases hf
  obtain ⟨r2, e2, h2⟩ := r.new (o := .dct []) (o' := .dK []) hp ⟨[], upd_same, rfl, .nil⟩
  exact hq _ _ e2 r2 _ (.loc h2)
/-- k in d, too -/
def inE (neg : Bool) (x y : Dv) (M : Mem) : Rz := match y with
  | .loc n => match M[n]? with
    | some (.dct kvs) => match keyD x with
      | some k => some (.bl (xor neg (valD kvs k).isSome), M)
      | none => match kvs with
        | [] => match keyN x with
          | some _ => some (.bl (xor neg false), M)
          | none => none
        | _ => none
    | some (.dcn kvs) => match keyN x with
      | some k => some (.bl (xor neg (valN kvs k).isSome), M)
      | none => none
    | _ => inD neg x y M
  | _ => inD neg x y M
theorem room_n (hu : X.A.units + 65 < cLine) : (nestedKind X.prog X.w).room X.A.in1 := by
  show X.A.units + 1 + 8 < cLine
  omega
theorem dget_of {K : Frg} {ρ : List Addr} {H : Hp} {a : Addr} {kvs : List (Key × Dv)} {vs : List (Key × V)} {k : Key} (h2 : H a = some (.dK vs)) (h3 : kvs.map (·.1) = vs.map (·.1)) (h4 : DVs K ρ H (kvs.map (·.2)) (vs.map (·.2))) : (valV vs k).isSome = (valD kvs k).isSome := by
  obtain ⟨i1, i2⟩ := val_of (k := k) h3 h4
  cases e : valD kvs k with
  | none => rw [i2 e]; rfl
  | some d => obtain ⟨v, e2, _⟩ := i1 d e; rw [e2]; rfl
theorem so_inE (hu : X.A.units + 65 < cLine) (hp : ct.prg = X.prog := by rfl) (hw : ct.wd = X.w := by rfl) : SO X ct (compareOp .In) (inE false) := by
  intro pins s σ H x y v u Q I rx ry h
  obtain ⟨ρ, M, d, e, r, dx, dy, z, M', hf, hq⟩ := h
  have old : inD false d e M = some (z, M') → wpAny (model X.prog X.w) X.A (compareOp .In v u) (EP X pins σ Q) X.xe s := fun hf => so_in hu pins s σ H x y v u Q I rx ry ⟨ρ, M, d, e, r, dx, dy, z, M', hf, hq⟩
  unfold inE at hf
  split at hf
  · split at hf
    · rename_i kvs hm
      split at hf
      · rename_i k hk
        cases hf
        obtain ⟨a, vs, rfl, a1, a2, a3, a4⟩ := r.dct hm dy
        obtain rfl := keyD_of dx hk
        obtain rfl : u = Value.ref a := ry
        refine d_in (by omega) I (DGet.k a2) rx fun s' I' => ⟨.bl (valV vs k).isSome, H, I', rfl, hq ρ H .refl r _ ?_⟩
        rw [dget_of a2 a3 a4, Bool.false_xor]; exact .bl _
      · split at hf
        · split at hf
          · rename_i k hk
            cases hf
            obtain ⟨a, vs, rfl, a1, a2, a3, a4⟩ := r.dct hm dy
            have ev : vs = [] := List.length_eq_zero_iff.mp (by have := congrArg List.length a3; simpa using this.symm)
            subst ev
            obtain rfl : u = Value.ref a := ry
            obtain ⟨b, rfl, rfl, ki⟩ := key_is I dx rx hk
            obtain ⟨dd, ds⟩ := dn_empty I a2
            exact wpAny_in_heap (room_n hu) ki ds dd ⟨.bl false, H, I.tok _, rfl, hq ρ H .refl r _ (.bl _)⟩
          · cases hf
        · cases hf
    · rename_i kvs hm
      split at hf
      · rename_i k hk
        cases hf
        obtain ⟨a, xs, vs, rfl, a1, a2, a3, a4, a5, a6, a7⟩ := r.dcn hm dy
        obtain rfl : u = Value.ref a := ry
        obtain ⟨b, rfl, rfl, ki⟩ := key_is I dx rx hk
        obtain ⟨dd, _, ds⟩ := dn_of I hp hw a2 a3 a4 a5
        refine wpAny_in_heap (room_n hu) ki ds dd ⟨.bl (atKey xs k).isSome, H, I.tok _, rfl, hq ρ H .refl r _ ?_⟩
        rw [some_ofN a3 a6 a7, Bool.false_xor]; exact .bl _
      · cases hf
    · exact old hf
  · exact old hf
theorem so_notinE (hu : X.A.units + 65 < cLine) (hp : ct.prg = X.prog := by rfl) (hw : ct.wd = X.w := by rfl) : SO X ct (compareOp .NotIn) (inE true) := by
  intro pins s σ H x y v u Q I rx ry h
  obtain ⟨ρ, M, d, e, r, dx, dy, z, M', hf, hq⟩ := h
  have old : inD true d e M = some (z, M') → wpAny (model X.prog X.w) X.A (compareOp .NotIn v u) (EP X pins σ Q) X.xe s := fun hf => so_notin hu pins s σ H x y v u Q I rx ry ⟨ρ, M, d, e, r, dx, dy, z, M', hf, hq⟩
  unfold inE at hf
  split at hf
  · split at hf
    · rename_i kvs hm
      split at hf
      · rename_i k hk
        cases hf
        obtain ⟨a, vs, rfl, a1, a2, a3, a4⟩ := r.dct hm dy
        obtain rfl := keyD_of dx hk
        obtain rfl : u = Value.ref a := ry
        refine d_notIn (by omega) I (DGet.k a2) rx fun s' I' => ⟨.bl (!(valV vs k).isSome), H, I', rfl, hq ρ H .refl r _ ?_⟩
        rw [dget_of a2 a3 a4, Bool.true_xor]; exact .bl _
      · split at hf
        · split at hf
          · rename_i k hk
            cases hf
            obtain ⟨a, vs, rfl, a1, a2, a3, a4⟩ := r.dct hm dy
            have ev : vs = [] := List.length_eq_zero_iff.mp (by have := congrArg List.length a3; simpa using this.symm)
            subst ev
            obtain rfl : u = Value.ref a := ry
            obtain ⟨b, rfl, rfl, ki⟩ := key_is I dx rx hk
            obtain ⟨dd, ds⟩ := dn_empty I a2
            refine notIn_keyed (kvs := []) (room_n hu) ki ds ⟨[], dd, rfl⟩ ⟨.bl true, H, I.tok _, rfl, hq ρ H .refl r _ (.bl _)⟩
          · cases hf
        · cases hf
    · rename_i kvs hm
      split at hf
      · rename_i k hk
        cases hf
        obtain ⟨a, xs, vs, rfl, a1, a2, a3, a4, a5, a6, a7⟩ := r.dcn hm dy
        obtain rfl : u = Value.ref a := ry
        obtain ⟨b, rfl, rfl, ki⟩ := key_is I dx rx hk
        obtain ⟨dd, _, ds⟩ := dn_of I hp hw a2 a3 a4 a5
        refine notIn_keyed (room_n hu) ki ds ⟨xs, dd, rfl⟩ ⟨.bl (!(valueAt (pairsH xs) k).isSome), H, I.tok _, rfl, hq ρ H .refl r _ ?_⟩
        rw [valueAt_pairsH, Option.isSome_map, some_ofN a3 a6 a7, Bool.true_xor]; exact .bl _
      · cases hf
    · exact old hf
  · exact old hf
/-- d[k], too -/
def ixE (x y : Dv) (M : Mem) : Rz := match x with
  | .loc n => match M[n]? with
    | some (.dct kvs) => match keyD y with
      | some k => match valD kvs k with
        | some d => some (d, M)
        | none => none
      | none => none
    | some (.dcn kvs) => match keyN y with
      | some k => match valN kvs k with
        | some d => some (d, M)
        | none => none
      | none => none
    | _ => ixD x y M
  | _ => ixD x y M
theorem sx_E (hu : X.A.units + 65 < cLine) (hp : ct.prg = X.prog) (hw : ct.wd = X.w) : IxR X (tO X.K ct ixE) := by
  intro value slice pins s σ H x y v u Q I rx ry h hsub
  obtain ⟨ρ, M, d, e, r, dx, dy, z, M', hf, hq⟩ := h
  have old : ixD d e M = some (z, M') → wpAny (model X.prog X.w) X.A (subscriptTail value slice v u) (EP X pins σ Q) X.xe s := fun hf => sx_seq value slice pins s σ H x y v u Q I rx ry ⟨ρ, M, d, e, r, dx, dy, z, M', hf, hq⟩ hsub
  unfold ixE at hf
  split at hf
  · split at hf
    · rename_i kvs hm
      split at hf
      · rename_i k hk
        split at hf
        · rename_i d' hd
          cases hf
          obtain ⟨a, vs, rfl, a1, a2, a3, a4⟩ := r.dct hm dx
          obtain rfl := keyD_of dy hk
          obtain rfl : v = Value.ref a := rx
          obtain ⟨w, e2, dw⟩ := (val_of (k := k) a3 a4).1 _ hd
          have g : DGet H a (kV k) (some w) := e2 ▸ DGet.k a2
          exact tail_any (dict_typeIs I g) PySem.F.slot_dict_getitem.lookup (d_getItem (by omega) I g ry fun w' s' I' rw' => ⟨w, H, I', rw', hq ρ H .refl r _ dw⟩) hsub
        · cases hf
      · cases hf
    · rename_i kvs hm
      split at hf
      · rename_i k hk
        split at hf
        · rename_i d' hd
          cases hf
          obtain ⟨a, xs, vs, rfl, a1, a2, a3, a4, a5, a6, a7⟩ := r.dcn hm dx
          obtain rfl : v = Value.ref a := rx
          obtain ⟨b, rfl, rfl, ki⟩ := key_is I dy ry hk
          obtain ⟨dd, _, ds⟩ := dn_of I hp hw a2 a3 a4 a5
          obtain ⟨p, w, e2, dw, rw'⟩ := (val_ofN (k := k) a3 a6 a7).1 _ hd
          exact tail_any dd.typeIs PySem.F.slot_dict_getitem.lookup (wpAny_getItem_heap (room_n hu) ki dd e2 ⟨w, H, I.tok _, rw', hq ρ H .refl r _ dw⟩) hsub
        · cases hf
      · cases hf
    · exact old hf
  · exact old hf
theorem se_ixE {a b : Expr} {fa fb : FE} (hu : X.A.units + 65 < cLine) (ha : SE X ct a fa) (hb : SE X ct b fb) (hs : PlainIx b := by intro _ _; rfl) (hp : ct.prg = X.prog := by rfl) (hw : ct.wd = X.w := by rfl) : SE X ct (.Subscript a b pos) (fO ixE fa fb) :=
  PE.imp (pe_ix (sx_E hu hp hw) ha hb hs) fun _ _ _ w => op_imp w
/-- len(d), too -/
def lenE : List Dv → Mem → Rz
  | [.loc n], M => match M[n]? with
    | some (.dct kvs) => some (.int (kvs.length : Nat), M)
    | some (.dcn kvs) => some (.int (kvs.length : Nat), M)
    | some (.st xs) => some (.int (xs.length : Nat), M)
    | some (.sk xs) => some (.int (xs.length : Nat), M)
    | _ => lenD [.loc n] M
  | ds, M => lenD ds M
theorem sc_lenE : SC X ct (.builtin "len") lenE := by
  intro pins s σ H xs us Q I rv h
  obtain ⟨ρ, M, ds, r, dv, z, M', hf, hq⟩ := h
  unfold lenE at hf
  split at hf
  · split at hf
    · rename_i kvs hm
      cases hf
      obtain ⟨v, rfl, d1⟩ := dvs_one dv
      obtain ⟨a, vs, rfl, a1, a2, a3, a4⟩ := r.dct hm d1
      refine call_lenD pins s σ H _ us Q I rv ⟨a, vs, rfl, a2, hq ρ H .refl r _ ?_⟩
      have : kvs.length = vs.length := by have := congrArg List.length a3; simpa using this
      rw [this]; exact .int _
    · rename_i kvs hm
      cases hf
      obtain ⟨v, rfl, d1⟩ := dvs_one dv
      obtain ⟨a, xs, vs, rfl, a1, a2, a3, a4⟩ := r.dcn hm d1
      obtain ⟨u, rfl, ru⟩ := vals1 rv
      cases ru
      obtain ⟨o, es, ep, g1, g2, g3, g4, g5, g6, g7⟩ := (I.hok a _ a2).1
      have hl : es.size = kvs.length := by
        have := size_of_entries g4
        have h2 := congrArg List.length a3
        simp only [List.length_map] at h2
        omega
      have raw : s.heap.DictRaw a es ep := ⟨o, g1, g2, g3⟩
      have h62 : sizeLine < 2 ^ 62 := by decide
      refine PyProof.Rows.call_len_slot (n := (kvs.length : Int)) raw.typeIs F.slot_dict_len (fun Q' h => call_len_raw g7 raw (by rw [hl]; exact h)) (by omega) (by
          have h2 := congrArg List.length a3
          simp only [List.length_map] at h2
          omega) ?_
      exact ⟨.int kvs.length, H, I.tok _, ⟨_, rfl⟩, hq ρ H .refl r _ (.int _)⟩
    · rename_i zs hm
      cases hf
      obtain ⟨v, rfl, d1⟩ := dvs_one dv
      obtain ⟨a, rfl, a1, a2⟩ := r.st hm d1
      obtain ⟨u, rfl, ru⟩ := vals1 rv
      cases ru
      obtain ⟨o, es, ep, t, g1, g2, g3, g4, g5, g6, g7, g8⟩ := (show s.heap.SetOf (intKind X.prog X.w) a _ _ from I.hok a _ a2)
      refine call_len_set g1 g2 g3 g7 (by
          have h62 : scanBound < 2 ^ 62 := by decide
          omega) ?_
      rw [g8]
      exact ⟨.int zs.length, H, I.tok _, ⟨_, rfl⟩, hq ρ H .refl r _ (.int _)⟩
    · rename_i zs hm
      cases hf
      obtain ⟨v, rfl, d1⟩ := dvs_one dv
      obtain ⟨a, rfl, a1, a2⟩ := r.sk hm d1
      obtain ⟨u, rfl, ru⟩ := vals1 rv
      cases ru
      obtain ⟨o, es, ep, t, g1, g2, g3, g4, g5, g6, g7, g8⟩ := (I.hok a _ a2).1
      refine call_len_set g1 g2 g3 g7 (by
          have h62 : scanBound < 2 ^ 62 := by decide
          omega) ?_
      rw [g8]
      exact ⟨.int zs.length, H, I.tok _, ⟨_, rfl⟩, hq ρ H .refl r _ (.int _)⟩
    · exact sc_len pins s σ H xs us Q I rv ⟨ρ, M, _, r, dv, z, M', hf, hq⟩
  · exact sc_len pins s σ H xs us Q I rv ⟨ρ, M, _, r, dv, z, M', hf, hq⟩
/-- d[k] = v, too -/
def setE (o i v : Dv) (M : Mem) : Option Mem := match o with
  | .loc n => match M[n]? with
    | some (.dct kvs) => match keyD i with
      | some k => if kvs.length < sizeLine then some (M.set n (.dct (putDk kvs k v))) else none
      | none => match kvs with
        | [] => match keyN i with
          | some k => some (M.set n (.dcn (putN [] k i v)))
          | none => none
        | _ => none
    | some (.dcn kvs) => match keyN i with
      | some k => if kvs.length < sizeLine then some (M.set n (.dcn (putN kvs k i v))) else none
      | none => none
    | _ => setD o i v M
  | _ => setD o i v M
/-- the store of a nested key, by what is known -/
def rSetN (X : Cx) : TSet := fun o i v H Q => ∃ (ρ : List Addr) (a : Addr) (kvs : List (NestedKey × Dv × Dv)) (xs : List (NestedKey × Addr × Value)) (kd : Dv) (k : NestedKey), o = .ref a ∧ (H a = some (NDic X.prog X.w a xs) ∨ (xs = [] ∧ H a = some (.dK []))) ∧
  kvs.map (·.1) = xs.map (·.1) ∧ (∀ p ∈ kvs, keyN p.2.1 = some p.1) ∧ DVs X.K ρ H (kvs.map (·.2.1)) (xs.map fun x => V.ref x.2.1) ∧ keyN kd = some k ∧ DV X.K ρ H kd i ∧ xs.length < sizeLine ∧
  ∀ b u, i = .ref b → RelV v u → Q (upd H a (NDic X.prog X.w a (storedH xs k b u)))
theorem set_dictN (hu : X.A.units + 65 < cLine) : PSet X (rSetN X) := by
  intro pins s σ H o i v ov iv u Q I ro ri rv h
  obtain ⟨ρ, a, kvs, xs, kd, k, rfl, h0, h1, h2, h3, hk, hkd, hl, q⟩ := h
  cases (show ov = Value.ref a from ro)
  obtain ⟨b, rfl, rfl, ki⟩ := key_is I hkd ri hk
  have key : s.heap.DictOfH (nestedKind X.prog X.w) a xs ∧ (a == sysModules) = false ∧ Mut (H a) := by
    rcases h0 with h0 | ⟨rfl, h0⟩
    · obtain ⟨o, es, ep, g1, g2, g3, g4, g5, g6, g7⟩ := (I.hok a _ h0).1
      exact ⟨⟨o, es, ep, g1, g2, g3, g4, keys_are I h1 h2 h3, g5⟩, g7, by rw [h0]; trivial⟩
    · obtain ⟨dd, ds⟩ := dn_empty I h0
      exact ⟨dd, ds, by rw [h0]; trivial⟩
  obtain ⟨dd, ds, mu⟩ := key
  refine wpAny_setItem_heap (hsz := by omega) (room_n hu) ki dd fun h' dd' sb => ?_
  have he : ∃ u, h'.get? a = some u := by
    obtain ⟨o, _, _, ho, _⟩ := dd'
    exact ⟨o, ho⟩
  have hlen : (storedH xs k b u).length ≤ sizeLine := by
    have := storedH_length xs k b u
    omega
  exact ⟨_, I.write (e := a) (t' := s.toks + (nestedKind X.prog X.w).draws k) mu (.inl rfl) (fun b u hb hu => (sb.2 b hb).trans hu) he (ndic_new dd' hlen ds), q b u rfl rv⟩
def gSE (fo fi : FE) : FG := fun d env M => bnd (fo env M) fun o M1 => bnd (fi env M1) fun i M2 => match setE o i d M2 with
  | some M3 => some (env, M3)
  | none => none
theorem PSet.or {r r' : TSet} (h : PSet X r) (h' : PSet X r') : PSet X (fun o i v H Q => r o i v H Q ∨ r' o i v H Q) := fun pins s σ H o i v ov iv u Q I ro ri rv w => w.elim (h pins s σ H o i v ov iv u Q I ro ri rv) (h' pins s σ H o i v ov iv u Q I ro ri rv)
theorem sg_subE {ws : List Nat} (hu : X.A.units + 65 < cLine) (ho : SE X ct o fo) (hi : SE X ct i' fi) (hp : ct.prg = X.prog := by rfl) (hw : ct.wd = X.w := by rfl)
    (ha : ∀ v, assign (.Subscript o i' pos) X.env v = (do
      let ov ← holding [v] (eval o X.env)
      let iv ← holding [v, ov] (eval i' X.env)
      standAt pos
      holding [v, ov, iv] (setItem ov iv v)
      release [v, ov, iv] []) := by intro _; rfl) : SG X ct ws (.Subscript o i' pos) (gSE fo fi) :=
  PG.imp (pg_sub ho hi (PSet.or (PSet.or set_list (set_dict (by omega))) (set_dictN hu)) ha) fun v σ H Q ⟨ρ, M, env, d, r, he, dv, env', M', hf, hq⟩ => by
    obtain ⟨x, M1, h1, hf⟩ := bnd_some hf
    obtain ⟨y, M2, h2, hf⟩ := bnd_some hf
    refine ⟨ρ, M, env, r, he, x, M1, h1, fun ρ1 H1 e1 r1 w dw => ⟨ρ1, M1, env, r1, he.mono e1, y, M2, h2, fun ρ2 H2 e2 r2 u du => ?_⟩⟩
    split at hf
    · rename_i M3 hs
      cases hf
      have old : setD x y d M2 = some M' → (rSetL w u v H2 fun H' => Q σ H') := fun hs => by
        unfold setD at hs
        split at hs
        · split at hs
          · rename_i hm
            split at hs
            · rename_i j hj
              cases hs
              obtain ⟨a, vs, rfl, a1, a2, a3⟩ := r2.lst hm (dw.mono e2)
              cases du
              obtain ⟨r3, e3⟩ := r2.putL a1 a2 (a3.set ((dv.mono e1).mono e2) j)
              exact ⟨a, vs, _, j, rfl, rfl, a2, by rw [← a3.length]; exact hj, hq ρ2 _ ((e1.trans e2).trans e3) r3 σ (((he.mono e1).mono e2).mono e3) .refl⟩
            · cases hs
          · cases hs
        · cases hs
      unfold setE at hs
      split at hs
      · split at hs
        · rename_i kvs hm
          split at hs
          · rename_i k hk
            split at hs
            · rename_i hl
              cases hs
              obtain ⟨a, vs, rfl, a1, a2, a3, a4⟩ := r2.dct hm (dw.mono e2)
              obtain rfl := keyD_of du hk
              have hlen : kvs.length = vs.length := by have := congrArg List.length a3; simpa using this
              obtain ⟨p1, p2⟩ := put_of (k := k) ((dv.mono e1).mono e2) a3 a4
              obtain ⟨oo, hm', hk'⟩ := r2.addr a1
              obtain ⟨r3, e3⟩ := r2.put (o := .dct (putDk kvs k d)) (o' := .dK (putK vs k v)) a1 a2 ⟨_, upd_same, p1, p2.mono (Ext.soft (fun _ _ h => h) (soft_of a2 rfl).1 (soft_of a2 rfl).2)⟩
              exact .inl (.inr ⟨a, _, rfl, DPut.k a2 (hlen ▸ hl), hq ρ2 _ ((e1.trans e2).trans e3) r3 σ (((he.mono e1).mono e2).mono e3) .refl⟩)
            · cases hs
          · split at hs
            · split at hs
              · rename_i k hk
                cases hs
                obtain ⟨a, vs, rfl, a1, a2, a3, a4⟩ := r2.dct hm (dw.mono e2)
                have ev : vs = [] := List.length_eq_zero_iff.mp (by have := congrArg List.length a3; simpa using this.symm)
                subst ev
                refine .inr ⟨ρ2, a, [], [], y, k, rfl, .inr ⟨rfl, a2⟩, rfl, fun p hp => by simp at hp, .nil, hk, du, by decide, fun b u' eb ru => ?_⟩
                subst eb
                obtain ⟨ws', p1, p2, p3, p4, p5⟩ := put_ofN (kvs := []) (xs := []) (vs := []) hk du ((dv.mono e1).mono e2) ru rfl (fun p hp => by simp at hp) .nil .nil .nil
                obtain ⟨oo, hm', hk'⟩ := r2.addr a1
                have sf : Ext X.K ρ2 H2 ρ2 (upd H2 a (NDic X.prog X.w a (storedH [] k b u'))) := Ext.soft (fun _ _ h => h) (soft_of a2 rfl).1 (soft_of a2 rfl).2
                obtain ⟨r3, e3⟩ := r2.put (o := .dcn (putN [] k y d)) (o' := NDic X.prog X.w a (storedH [] k b u')) a1 a2 ⟨_, ws', by rw [upd_same, hp, hw], p1, p2, p3.mono sf, p4.mono sf, p5⟩
                exact hq ρ2 _ ((e1.trans e2).trans e3) r3 σ (((he.mono e1).mono e2).mono e3) .refl
              · cases hs
            · cases hs
        · rename_i kvs hm
          split at hs
          · rename_i k hk
            split at hs
            · rename_i hl
              cases hs
              obtain ⟨a, xs, vs, rfl, a1, a2, a3, a4, a5, a6, a7⟩ := r2.dcn hm (dw.mono e2)
              have hlen : kvs.length = xs.length := by have := congrArg List.length a3; simpa using this
              refine .inr ⟨ρ2, a, kvs, xs, y, k, rfl, .inl (by rw [a2, hp, hw]), a3, a4, a5, hk, du, hlen ▸ hl, fun b u' eb ru => ?_⟩
              subst eb
              obtain ⟨ws', p1, p2, p3, p4, p5⟩ := put_ofN hk du ((dv.mono e1).mono e2) ru a3 a4 a5 a6 a7
              obtain ⟨oo, hm', hk'⟩ := r2.addr a1
              have sf : Ext X.K ρ2 H2 ρ2 (upd H2 a (NDic X.prog X.w a (storedH xs k b u'))) := Ext.soft (fun _ _ h => h) (soft_of a2 rfl).1 (soft_of a2 rfl).2
              obtain ⟨r3, e3⟩ := r2.put (o := .dcn (putN kvs k y d)) (o' := NDic X.prog X.w a (storedH xs k b u')) a1 a2 ⟨_, ws', by rw [upd_same, hp, hw], p1, p2, p3.mono sf, p4.mono sf, p5⟩
              exact hq ρ2 _ ((e1.trans e2).trans e3) r3 σ (((he.mono e1).mono e2).mono e3) .refl
            · cases hs
          · cases hs
        · exact .inl (.inl (old hs))
      · exact .inl (.inl (old hs))
    · cases hf
/-- d.get(k) -/
def fDGet (fo fe : FE) : FE := fun env M => bnd (fo env M) fun d M1 => match d with
  | .loc n => match M1[n]? with
    | some (.dct _) => bnd (fe env M1) fun y M2 => match M2[n]?, keyD y with
      | some (.dct kvs), some k => some ((valD kvs k).getD .non, M2)
      | _, _ => none
    | _ => none
  | _ => none
theorem se_dget {apos cpos : Pos} (hu : X.A.units + 65 < cLine) (ho : SE X ct o fo) (he : SE X ct e fe) (m : M1 X o "get" apos e cpos) : SE X ct (.Call (.Attribute o "get" apos) [e] [] cpos) (fDGet fo fe) :=
  PE.imp (pe_dget1 (by omega) ho he m) fun σ H Q ⟨ρ, M, env, r, hen, d, M', hf, hq⟩ => by
    obtain ⟨x, N1, h1, hf⟩ := bnd_some hf
    refine ⟨ρ, M, env, r, hen, x, N1, h1, fun ρ1 H1 e1 r1 w dw => ?_⟩
    split at hf
    · split at hf
      · rename_i hm
        obtain ⟨a, vs, rfl, a1, a2, a3, a4⟩ := r1.dct hm dw
        obtain ⟨y, N2, h2, hf⟩ := bnd_some hf
        refine ⟨a, rfl, .inl ⟨vs, .inl a2⟩, ρ1, N1, env, r1, hen.mono e1, y, N2, h2, fun ρ2 H2 e2 r2 u du => ?_⟩
        split at hf
        · rename_i kvs k hm2 hk
          cases hf
          obtain ⟨b, vs2, eb, b1, b2, b3, b4⟩ := r2.dct hm2 (dw.mono e2)
          cases eb
          obtain rfl := keyD_of du hk
          refine ⟨_, DGet.k b2, hq ρ2 H2 (e1.trans e2) r2 _ ?_⟩
          obtain ⟨i1, i2⟩ := val_of (k := k) b3 b4
          cases ev : valD kvs k with
          | none => rw [i2 ev]; exact .non
          | some dd => obtain ⟨v, e3, dv⟩ := i1 dd ev; rw [e3]; exact dv
        · cases hf
      · cases hf
    · cases hf
end
end Zl

/-! text Z18 -/
namespace Zl
open PySem L2 PySem.Spec PyProof.Rows
/-! ## range, counting down -/
section
variable {X : Cx} {ct : Ct} {pos p : Pos} {tg a b c : Expr} {fa fb fc : FE}
def srcC (lo c : Int) (n : Nat) : Src := ⟨n, fun i _ => if i < n then some (some (.int (lo + i * c))) else some none⟩
theorem feeds_rngC {K : Frg} {ρ0 : List Addr} {H0 : Hp} {lo c : Int} {n : Nat} : Feeds K ct ρ0 H0 (Itc lo c n) (srcC lo c n).stp := by
  intro i ρ M H _ r
  show (match (if i < n then some (some (Dv.int (lo + i * c))) else some none) with | some (some d) => _ | some none => _ | none => _)
  by_cases hi : i < n
  · rw [if_pos hi]
    refine ⟨hi, fun y H' hy => ?_⟩
    obtain ⟨e, ey⟩ := hy
    subst e; subst ey
    exact ⟨.refl, r, .int _⟩
  · rw [if_neg hi]
    exact Nat.le_of_not_lt hi
def fRng3 (f g h : FE) : FI := fun env M => bnd (f env M) fun d M1 => bnd (g env M1) fun d2 M2 => bnd (h env M2) fun d3 M3 => match d, d2, d3 with
  | .int i, .int j, .int k => if k = -1 ∧ -(2 ^ 62) ≤ i ∧ i < 2 ^ 62 ∧ -(2 ^ 62) ≤ j ∧ j < 2 ^ 62 then some (srcC i (-1) (i - j).toNat, M3) else none
  | _, _, _ => none
theorem dvs_three {K : Frg} {ρ : List Addr} {H : Hp} {x y z : Dv} {vs : List V} (h : DVs K ρ H [x, y, z] vs) : ∃ u v w, vs = [u, v, w] ∧ DV K ρ H x u ∧ DV K ρ H y v ∧ DV K ρ H z w := by
  cases h with
  | cons h1 hr =>
    obtain ⟨v, w, rfl, h2, h3⟩ := dvs_two hr
    exact ⟨_, _, _, rfl, h1, h2, h3⟩
theorem si_range3 (hg : Gl X "range") (hm : X.mg "range" = none) (ha : SE X ct a fa) (hb : SE X ct b fb) (hc : SE X ct c fc)
    (hs : starEach [a, b, c] X.env = (false, eval a X.env) :: starEach [b, c] X.env := by rfl)
    (hs2 : starEach [b, c] X.env = (false, eval b X.env) :: starEach [c] X.env := by rfl)
    (hs3 : starEach [c] X.env = [(false, eval c X.env)] := by rfl)
    (hpl : (backTo pos (starEach [b, c] X.env)).any (·.1) = false := by rfl) : SI X ct tg (.Call (.Name "range" p) [a, b, c] [] pos) (fRng3 fa fb fc) :=
  PI.imp (pi_range3 hg hm (sa_cons ha (sa_cons hb (sa_cons hc sa_nil hs3) hs2) hs) hs hpl) fun σ H R ⟨ρ, M, env, r, he, src, M', hf, hq⟩ => by
    obtain ⟨d, M1, h1, hf⟩ := bnd_some hf
    obtain ⟨d2, M2, h2, hf⟩ := bnd_some hf
    obtain ⟨d3, M3, h3, hf⟩ := bnd_some hf
    refine ⟨ρ, M, env, r, he, [d, d2, d3], M3, by show bnd (fa env M) _ = _; rw [h1]; show bnd (bnd (fb env M1) _) _ = _; rw [h2]; show bnd (bnd (bnd (fc env M2) _) _) _ = _; rw [h3]; rfl, fun ρ1 H1 e1 r1 vs dvs => ?_⟩
    split at hf
    · split at hf
      · rename_i hb
        cases hf
        obtain ⟨v, u, w, rfl, d1, d2, d3⟩ := dvs_three dvs
        cases d1; cases d2; cases d3
        obtain ⟨rfl, b1, b2, b3, b4⟩ := hb
        exact ⟨_, _, _, _, rfl, RgC.neg b1 b2 b3 b4, hq ρ1 H1 e1 r1 _ feeds_rngC⟩
      · cases hf
    · cases hf
end
end Zl

/-! text Z19 -/
namespace Zl
open PySem L2 PySem.Spec PyProof.Rows
section
variable {X : Cx} {ct : Ct}
/-! xs.remove(k): a list of whole numbers, k among them -/
def intsOf : List Dv → Option (List Int)
  | [] => some []
  | .int i :: ds => match intsOf ds with
    | some is => some (i :: is)
    | none => none
  | _ => none
theorem intsOf_eq : ∀ {ds : List Dv} {is : List Int}, intsOf ds = some is → ds = is.map .int
  | [], _, h => by cases h; rfl
  | .int i :: ds, is, h => by
    unfold intsOf at h
    split at h
    · rename_i js e
      cases h
      rw [intsOf_eq e]; rfl
    · cases h
  | .non :: _, _, h => by cases h
  | .bl _ :: _, _, h => by cases h
  | .str _ :: _, _, h => by cases h
  | .tup _ :: _, _, h => by cases h
  | .pr _ :: _, _, h => by cases h
  | .rol _ :: _, _, h => by cases h
  | .loc _ :: _, _, h => by cases h
  | .ty _ :: _, _, h => by cases h
theorem intsOf_map : ∀ is : List Int, intsOf (is.map .int) = some is
  | [] => rfl
  | i :: is => by
    show (match intsOf (is.map .int) with | some js => some (i :: js) | none => none) = _
    rw [intsOf_map]
theorem vs_ints {K : Frg} {ρ : List Addr} {H : Hp} : ∀ {is : List Int} {vs : List V}, DVs K ρ H (is.map .int) vs → vs = is.map V.int
  | [], _, h => by cases h; rfl
  | i :: is, _, h => by
    cases h with
    | cons a b =>
      cases a
      rw [vs_ints b]; rfl
theorem ints_dvs {K : Frg} {ρ : List Addr} {H : Hp} : ∀ (is : List Int), DVs K ρ H (is.map .int) (is.map V.int)
  | [] => .nil
  | i :: is => .cons (.int i) (ints_dvs is)
def removeD : FM
  | .loc n, [.int k], M => match M[n]? with
    | some (.lst ys) => match intsOf ys with
      | some is => if k ∈ is then some (.non, M.set n (.lst ((is.erase k).map .int))) else none
      | none => none
    | _ => none
  | _, _, _ => none
theorem sm_remove : SM X ct "list.remove" removeD := by
  intro pins s σ H x xs v us Q I rx rxs w
  obtain ⟨ρ, M, d, ds, r, dx, dxs, z, M', hf, hq⟩ := w
  unfold removeD at hf
  split at hf
  · split at hf
    · rename_i hm
      split at hf
      · rename_i is hi
        split at hf
        · rename_i hk
          cases hf
          have hy := intsOf_eq hi
          subst hy
          obtain ⟨l, vs, rfl, a1, hH, a3⟩ := r.lst hm dx
          have hv := vs_ints a3
          subst hv
          obtain ⟨y, rfl, dy⟩ := dvs_one dxs
          cases dy
          obtain ⟨u, rfl, ru⟩ := vals1 rxs
          obtain ⟨t, rfl⟩ := ru
          cases rx
          rename_i n k _o1 _o2
          obtain ⟨r2, e2⟩ := r.putL a1 hH (ints_dvs (K := X.K) (ρ := ρ) (H := H) (is.erase k))
          obtain ⟨z, its, n', rr, hl, e0⟩ := I.lstM hH
          have hi' : IntsAre its is := intsAre_of rr
          have heq := eq_isInt k t hi'
          have hnl : is.length = its.length := by rw [← hl, List.length_map]
          have hsz : its.toArray.size ≤ sizeLine := by rw [List.size_toArray, ← hl]; exact z
          obtain ⟨j, j1, j2, j3, j4⟩ := first_at hk
          have hj : j < its.length := by omega
          refine call_meets PySem.F.slot_list_remove ⟨_, e0, rfl⟩ PySem.F.entry_list_remove (PySem.F.args_list_remove_2 _ _)
            (MeetsSeq.list_remove l its.toArray n' (.int k t) (isInt k) (fun y hy => heq y (by simpa using hy)) j (by rw [List.size_toArray]; exact hj) ?hit (fun i hi2 hlt => ?hno) hsz) ⟨e0, ?_⟩
          case hit =>
            show isInt k its[j] = true
            exact (L2.isInt_at k hi' j hj).mpr j2
          case hno =>
            have hi3 : i < its.length := by rw [List.size_toArray] at hi2; exact hi2
            show isInt k its[i] = false
            rw [Bool.eq_false_iff]
            intro w
            exact j3 i hlt ((L2.isInt_at k hi' i hi3).mp w)
          have r3 : Vals ((is.erase k).map V.int) (its.eraseIdx j) := by
            have w := rr.eraseIdx j
            rw [map_eraseIdx', j4] at w
            exact w
          refine ⟨.non, _, I.lset (its' := its.eraseIdx j) hH e0 ?_ r3 ?_, rfl, hq ρ _ e2 r2 _ .non⟩
          · show its.toArray.eraseIdxIfInBounds j = (its.eraseIdx j).toArray
            rw [List.eraseIdxIfInBounds_toArray]
          · rw [List.length_map]
            have := List.length_erase_le (a := k) (l := is)
            rw [List.length_map] at z
            omega
        · cases hf
      · cases hf
    · cases hf
  · cases hf
end
end Zl

/-! text Z20 -/
namespace Zl
open PySem L2 PySem.Spec PyProof.Rows
/-! ## [e for t in a for t1 in b] -/
def comp2F (it : Stp) (g : FG) (ft : FT) (fi1 : FI) (vs1 : List Nat) (g1 : FG) (ft1 : FT) (fe : FE) (e0 : En) (n : Nat) : Nat → Nat → Mem → Option Mem
  | 0, i, M => match it i M with
    | some none => some M
    | _ => none
  | k + 1, i, M => match it i M with
    | some none => some M
    | some (some d) => match g d e0 M with
      | some (e1, M1) => match ft e1 M1 with
        | some (true, M2) => match fi1 e1 M2 with
          | some (src1, M3) => match compF src1.stp g1 ft1 fe (wipeE e1 vs1) n src1.many 0 M3 with
            | some M4 => comp2F it g ft fi1 vs1 g1 ft1 fe e0 n k (i + 1) M4
            | none => none
          | none => none
        | some (false, M2) => comp2F it g ft fi1 vs1 g1 ft1 fe e0 n k (i + 1) M2
        | none => none
      | none => none
    | none => none
def fComp2 (fi : FI) (vs : List Nat) (g : FG) (ft : FT) (fi1 : FI) (vs1 : List Nat) (g1 : FG) (ft1 : FT) (fe : FE) : FE := fun env M => bnd (fi env M) fun src M1 =>
  match comp2F src.stp g ft fi1 vs1 g1 ft1 fe (wipeE env vs) M1.length src.many 0 (M1 ++ [.lst []]) with
  | some M2 => some (.loc M1.length, M2)
  | none => none
section
variable {X : Cx} {ct : Ct} {tg iter tg1 iter1 : Expr} {pos : Pos} {fe : FE} {fi fi1 : FI} {g g1 : FG}
theorem lc2_imp {vs vs1 : List Nat} {ft ft1 : FT} {σ : L2.St} {H : Hp} {Q : VK} (w : tE X.K ct (fComp2 fi vs g ft fi1 vs1 g1 ft1 fe) σ H Q) : tLc2 (tI X.K ct fi) (tG X.K ct vs g) (tT X.K ct ft) (tI X.K ct fi1) (tG X.K ct vs1 g1) (tT X.K ct ft1) (tE X.K ct fe) vs vs1 σ H Q := by
  obtain ⟨ρ, M, env, r, he, d, M', hf, hq⟩ := w
  obtain ⟨src, M1, h1, hf⟩ := bnd_some hf
  split at hf
  · rename_i M2 hc
    cases hf
    refine ⟨ρ, M, env, r, he, src, M1, h1, fun ρ0 H0 e0 r0 J hJ D hD => ?_⟩
    obtain ⟨rN, xN, aN⟩ := r0.newL hD (.nil : DVs X.K ρ0 H0 [] [])
    refine ⟨fun i m H => ∃ ρ M, Ext X.K ρ0 H0 ρ H ∧ Rl X.K ct ρ M H ∧ ρ[M1.length]? = some D ∧ comp2F src.stp g ft fi1 vs1 g1 ft1 fe (wipeE env vs) M1.length m i M = some M' ∧ Aft X.K ct ρ H M' fun ρ' H' => ∀ v, DV X.K ρ' H' (.loc M1.length) v → Q v H',
      ⟨src.many, ρ0 ++ [D], _, xN, rN, aN, hc, (hq.later e0).later xN⟩, ?_⟩
    rintro i m H ⟨ρ, M, x0, r, aD, hf, hq⟩
    have hj := hJ i ρ M H x0 r
    have he' := ((he.mono e0).mono x0).wipe vs
    cases q : src.stp i M with
    | none =>
      cases m with
      | zero => rw [comp2F, q] at hf; cases hf
      | succ m => rw [comp2F, q] at hf; cases hf
    | some o =>
      rw [q] at hj
      cases o with
      | none =>
        have e : some M = some M' := by
          cases m with
          | zero => rw [comp2F, q] at hf; exact hf
          | succ m => rw [comp2F, q] at hf; exact hf
        cases e
        exact .inl ⟨hj, hq ρ H .refl r _ (.loc aD)⟩
      | some d =>
        cases m with
        | zero => rw [comp2F, q] at hf; cases hf
        | succ m =>
          rw [comp2F, q] at hf
          dsimp only at hf
          refine .inr ⟨hj.1, fun H' => ∃ ρ M, Ext X.K ρ0 H0 ρ H' ∧ Rl X.K ct ρ M H' ∧ ρ[M1.length]? = some D ∧ comp2F src.stp g ft fi1 vs1 g1 ft1 fe (wipeE env vs) M1.length m (i + 1) M = some M' ∧ Aft X.K ct ρ H' M' fun ρ' H' => ∀ v, DV X.K ρ' H' (.loc M1.length) v → Q v H',
            fun H' n => ⟨m, Nat.lt_succ_self m, n⟩, fun x H' hy => ?_⟩
          obtain ⟨y1, y2, y3⟩ := hj.2 x H' hy
          split at hf
          · rename_i e1 N1 gg1
            refine ⟨ρ, M, wipeE env vs, d, y2, he'.mono y1, y3, e1, N1, gg1, fun ρ1 H1 x1 r1 σ1 en1 oe => ⟨wipe_eq oe, ?_⟩⟩
            split at hf
            · rename_i N2 g2
              refine ⟨ρ1, N1, e1, r1, en1, true, N2, g2, fun ρ2 H2 x2 r2 => ?_⟩
              dsimp only
              rw [if_pos rfl]
              split at hf
              · rename_i src1 N3 g3
                split at hf
                · rename_i N4 hc1
                  refine ⟨ρ2, N2, e1, r2, en1.mono x2, src1, N3, g3, fun ρ3 H3 x3 r3 J1 hJ1 => ?_⟩
                  have xx := ((y1.trans x1).trans x2).trans x3
                  have en3 := (en1.mono x2).mono x3
                  refine ⟨fun j k H => ∃ ρ M, Ext X.K ρ3 H3 ρ H ∧ Rl X.K ct ρ M H ∧ ρ[M1.length]? = some D ∧ compF src1.stp g1 ft1 fe (wipeE e1 vs1) M1.length k j M = some N4,
                    ⟨src1.many, ρ3, N3, .refl, r3, xx.pre _ _ aD, hc1⟩, ?_⟩
                  rintro j k H5 ⟨ρ5, M5, x5, r5, aD5, hf5⟩
                  have hj1 := hJ1 j ρ5 M5 H5 x5 r5
                  have en5 := (en3.mono x5).wipe vs1
                  cases q1 : src1.stp j M5 with
                  | none =>
                    cases k with
                    | zero => rw [compF, q1] at hf5; cases hf5
                    | succ k => rw [compF, q1] at hf5; cases hf5
                  | some o =>
                    rw [q1] at hj1
                    cases o with
                    | none =>
                      have e : some M5 = some N4 := by
                        cases k with
                        | zero => rw [compF, q1] at hf5; exact hf5
                        | succ k => rw [compF, q1] at hf5; exact hf5
                      cases e
                      exact .inl ⟨hj1, ρ5, _, x0.trans (xx.trans x5), r5, aD5, hf, hq.later (xx.trans x5)⟩
                    | some d5 =>
                      cases k with
                      | zero => rw [compF, q1] at hf5; cases hf5
                      | succ k =>
                        rw [compF, q1] at hf5
                        dsimp only at hf5
                        refine .inr ⟨hj1.1, fun H' => ∃ ρ M, Ext X.K ρ3 H3 ρ H' ∧ Rl X.K ct ρ M H' ∧ ρ[M1.length]? = some D ∧ compF src1.stp g1 ft1 fe (wipeE e1 vs1) M1.length k (j + 1) M = some N4,
                          fun H' n => ⟨k, Nat.lt_succ_self k, n⟩, fun x H' hy => ?_⟩
                        obtain ⟨z1, z2, z3⟩ := hj1.2 x H' hy
                        split at hf5
                        · rename_i e6 N6 g6
                          refine ⟨ρ5, M5, wipeE e1 vs1, d5, z2, en5.mono z1, z3, e6, N6, g6, fun ρ6 H6 x6 r6 σ6 en6 oe6 => ⟨wipe_eq oe6, ?_⟩⟩
                          split at hf5
                          · rename_i N7 g7
                            refine ⟨ρ6, N6, e6, r6, en6, true, N7, g7, fun ρ7 H7 x7 r7 => ?_⟩
                            dsimp only
                            rw [if_pos rfl]
                            split at hf5
                            · rename_i y N8 g8
                              refine ⟨ρ7, N7, e6, r7, en6.mono x7, y, N8, g8, fun ρ8 H8 x8 r8 v dv => ?_⟩
                              split at hf5
                              · rename_i acc hm
                                split at hf5
                                · rename_i hl
                                  have xx8 := ((z1.trans x6).trans x7).trans x8
                                  have aD8 := xx8.pre _ _ aD5
                                  obtain ⟨b, ws, eb, b1, b2, b3⟩ := r8.lst hm (.loc aD8)
                                  cases eb
                                  obtain ⟨r9, x9⟩ := r8.putL aD8 b2 (b3.append (.cons dv .nil))
                                  exact ⟨ws, b2, by rw [← b3.length]; exact hl, ρ8, _, (x5.trans xx8).trans x9, r9, aD8, hf5⟩
                                · cases hf5
                              · cases hf5
                            · cases hf5
                          · rename_i N7 g7
                            refine ⟨ρ6, N6, e6, r6, en6, false, N7, g7, fun ρ7 H7 x7 r7 => ?_⟩
                            dsimp only
                            rw [if_neg (by decide)]
                            have xx7 := (z1.trans x6).trans x7
                            exact ⟨ρ7, N7, x5.trans xx7, r7, xx7.pre _ _ aD5, hf5⟩
                          · cases hf5
                        · cases hf5
                · cases hf
              · cases hf
            · rename_i N2 g2
              refine ⟨ρ1, N1, e1, r1, en1, false, N2, g2, fun ρ2 H2 x2 r2 => ?_⟩
              dsimp only
              rw [if_neg (by decide)]
              have xx := (y1.trans x1).trans x2
              exact ⟨ρ2, N2, x0.trans xx, r2, xx.pre _ _ aD, hf, hq.later xx⟩
            · cases hf
          · cases hf
  · cases hf
theorem se_comp2 {elt : Expr} {ifs ifs1 : List Expr} {scope : Scope} {own : List (Str × Nat)} {vs1 : List Nat} {ft ft1 : FT} (hc : X.calm = true) (hN : X.N.Nodup) (hi : SI X ct tg iter fi) (ok : BlkOk X.N X.env.scope scope own) (hv : ∀ i ∈ vs1, i ∈ own.map (·.2))
    (hg : ∀ s H C cl fp, SG (Cx.cb X scope s H C cl fp) ct (own.map (·.2)) tg g) (ht : ∀ s H C cl fp, STs (Cx.cb X scope s H C cl fp) ct ifs ft)
    (hi1 : ∀ s H C cl fp, SI (Cx.cb X scope s H C cl fp) ct tg1 iter1 fi1)
    (hg1 : ∀ s H C cl fp, SG (Cx.cb X scope s H C cl fp) ct vs1 tg1 g1) (ht1 : ∀ s H C cl fp, STs (Cx.cb X scope s H C cl fp) ct ifs1 ft1)
    (he : ∀ s H C cl fp, SE (Cx.cb X scope s H C cl fp) ct elt fe) (hs : ∀ x, foldedSetIterable iter X.env x = pure x := by intro _; rfl) (hs1 : ∀ env x, foldedSetIterable iter1 env x = pure x := by intro _ _; rfl) :
    SE X ct (.ListComp elt [⟨tg, iter, ifs, 0⟩, ⟨tg1, iter1, ifs1, 0⟩] scope pos) (fComp2 fi (own.map (·.2)) g ft fi1 vs1 g1 ft1 fe) :=
  PE.imp (pe_lc2 hc hN hi ok hv hg ht hi1 hg1 ht1 he hs hs1) fun _ _ _ w => lc2_imp w
end
end Zl

/-! text Z21 -/
namespace Zl
open PySem L2 PySem.Spec PyProof.Rows
/-! ## {k: v}, the key a nested tuple -/
def fDict1N (fk fv : FE) : FE := fun env M => bnd (fk env (M ++ [.dct []])) fun kd M1 => bnd (fv env M1) fun vd M2 => match M2[M.length]? with
  | some (.dct []) => match keyN kd with
    | some k => some (.loc M.length, M2.set M.length (.dcn (putN [] k kd vd)))
    | none => none
  | _ => none
section
variable {X : Cx} {ct : Ct} {pos : Pos} {k v : Expr} {fk fv : FE}
theorem se_dict1N (hu : X.A.units + 65 < cLine) (hk : SE X ct k fk) (hv : SE X ct v fv) (hp : ct.prg = X.prog := by rfl) (hw : ct.wd = X.w := by rfl) : SE X ct (.Dict [some k] [v] pos) (fDict1N fk fv) := by
  refine ⟨fun pins s σ H Q I h => ?_⟩
  obtain ⟨ρ, M, env, r, he, d, M', hf, hq⟩ := h
  obtain ⟨kd, M1, h1, hf⟩ := bnd_some hf
  obtain ⟨vd, M2, h2, hf⟩ := bnd_some hf
  have hn := I.hok.fresh (Nat.le_refl s.heap.objs.size)
  have I1 := I.laid (a := s.heap.objs.size) (o := .dK []) (h' := s.heap.push { cls := .type "dict", data := .dict #[] }) (t' := s.toks) (fun _ _ q => Heap.get?_push_of_some _ q) (Nat.le_refl _) (dk_empty s.heap I.big)
  obtain ⟨r1, x1, a1⟩ := r.new (o := .dct []) (o' := .dK []) hn ⟨[], upd_same, rfl, .nil⟩
  have room : (nestedKind X.prog X.w).room X.A := by show X.A.units + 8 < cLine; omega
  rw [arm_eval_Dict, zip_pairTrees [some k] [v] X.env pos rfl rfl, dictDisplay_pairs (pairTrees [some k] [v] X.env pos) (by intro z; cases z) (by show 1 < 17; decide)]
  refine wpAny_bind (wpAny_standAt (wpAny_bind (wpAny_subDictH (knd := nestedKind X.prog X.w) (Q := fun d s' => wpAny (model X.prog X.w) X.A (pure (Value.ref d)) (EP X pins σ Q) X.xe s') room (by show 1 ≤ 15; decide)
    (thn ((pps_cons hk hv pps_nil).run pins _ σ _ (fun ps H3 => ∃ ρ3 x y, ps = [(x, y)] ∧ Ext X.K (ρ ++ [s.heap.objs.size]) (upd H s.heap.objs.size (.dK [])) ρ3 H3 ∧ Rl X.K ct ρ3 M2 H3 ∧ DV X.K ρ3 H3 kd x ∧ DV X.K ρ3 H3 vd y) I1
      ⟨ρ ++ [s.heap.objs.size], M ++ [.dct []], env, r1, he.mono x1, kd, M1, h1, fun ρ2 H2 e2 r2 x dx => ⟨ρ2, M1, env, r2, (he.mono x1).mono e2, vd, M2, h2, fun ρ3 H3 e3 r3 y dy => ⟨ρ3, x, y, rfl, e2.trans e3, r3, dx.mono e3, dy⟩⟩⟩) ?_))))
  rintro ws s2 ⟨ps, H2, I2, rel, ρ3, x, y, rfl, e3, r3, dx, dy⟩
  cases rel with
  | cons rl rt =>
    cases rt
    rename_i uu
    obtain ⟨u1, u2⟩ := uu
    obtain ⟨ru1, ru2⟩ := rl
    split at hf
    · rename_i hm
      split at hf
      · rename_i k0 hk0
        cases hf
        obtain ⟨b, rfl, eb, ki⟩ := key_is I2 dx ru1 hk0
        have a3 := e3.pre _ _ a1
        obtain ⟨a, vs, ea, b1, b2, b3, b4⟩ := r3.dct hm (.loc a3)
        cases ea
        have ev : vs = [] := List.length_eq_zero_iff.mp (by have := congrArg List.length b3; simpa using this.symm)
        subst ev
        obtain ⟨dd, ds⟩ := dn_empty I2 b2
        refine ⟨[(k0, b, u2)], ⟨eb, rfl, ki, trivial⟩, dd, fun h' tk dd' sb => wpAny_pure ?_⟩
        have he' : ∃ u, h'.get? s.heap.objs.size = some u := by
          obtain ⟨o, _, _, ho, _⟩ := dd'
          exact ⟨o, ho⟩
        have hst : storedAllH [] [(k0, b, u2)] = storedH [] k0 b u2 := rfl
        rw [hst] at dd'
        have hlen : (storedH ([] : List (NestedKey × Addr × Value)) k0 b u2).length ≤ sizeLine := by
          have := storedH_length ([] : List (NestedKey × Addr × Value)) k0 b u2
          have h0 : (1 : Nat) ≤ sizeLine := by decide
          simp only [List.length_nil] at this
          omega
        obtain ⟨ws', p1, p2, p3, p4, p5⟩ := put_ofN (kvs := []) (xs := []) (vs := []) hk0 dx dy ru2 rfl (fun p hp => by simp at hp) .nil .nil .nil
        obtain ⟨oo, hm', hk'⟩ := r3.addr a3
        have sf : Ext X.K ρ3 H2 ρ3 (upd H2 s.heap.objs.size (NDic X.prog X.w s.heap.objs.size (storedH [] k0 b u2))) := Ext.soft (fun _ _ h => h) (soft_of b2 rfl).1 (soft_of b2 rfl).2
        obtain ⟨r4, e4⟩ := r3.put (o := .dcn (putN [] k0 kd vd)) (o' := NDic X.prog X.w s.heap.objs.size (storedH [] k0 b u2)) a3 b2 ⟨_, ws', by rw [upd_same, hp, hw], p1, p2, p3.mono sf, p4.mono sf, p5⟩
        refine ⟨.ref s.heap.objs.size, _, I2.write (e := s.heap.objs.size) (t' := tk) (by rw [b2]; trivial) (.inl rfl) (fun b u hb hu => (sb.2 b hb).trans hu) he' (ndic_new dd' hlen ds), rfl, ?_⟩
        exact hq ρ3 _ ((x1.trans e3).trans e4) r4 _ (.loc (e4.pre _ _ a3))
      · cases hf
    · cases hf
end
end Zl

/-! text Z22 -/
namespace Zl
open PySem L2 PySem.Spec PyProof.Rows
/-! ## set(list of whole numbers) -/
def dedupI (is : List Int) : List Int := PyProof.Rows.firstMet (fun i => is.getD i 0) is.length
def setOfD : List Dv → Mem → Rz
  | [.loc n], M => match M[n]? with
    | some (.lst ys) => match intsOf ys with
      | some is => if is.length < 4000 then some (.loc M.length, M ++ [.st (dedupI is)]) else none
      | none => none
    | _ => none
  | _, _ => none
section
variable {X : Cx} {ct : Ct}
theorem sc_set (hc : X.calm = true) : SC X ct (.type "set") setOfD := by
  intro pins s σ H xs us Q I rv h
  obtain ⟨ρ, M, ds, r, dv, z, M', hf, hq⟩ := h
  unfold setOfD at hf
  split at hf
  · split at hf
    · rename_i ys hm
      split at hf
      · rename_i is hi
        split at hf
        · rename_i hl
          cases hf
          have hy := intsOf_eq hi
          subst hy
          obtain ⟨v, rfl, d1⟩ := dvs_one dv
          obtain ⟨l, vs, rfl, a1, hH, a3⟩ := r.lst hm d1
          have hv := vs_ints a3
          subst hv
          obtain ⟨u, rfl, ru⟩ := vals1 rv
          cases ru
          obtain ⟨its, rvv, pl, hz⟩ := I.list (SqL.of hH)
          have hia : IntsAre its is := intsAre_of rvv
          have hlen : its.length = is.length := by have := rvv.length; simpa using this.symm
          have hn : H s.heap.objs.size = none := I.hok.fresh (Nat.le_refl _)
          refine call_set_list (ns := is) (I.ok.hd hc) pl.isList (by simpa using hia) (by
            have h4 : 4001 < scanBound := by decide
            rw [List.size_toArray, hlen]; omega) fun h' tk R keep => ?_
          have hsz : its.toArray.size = is.length := by simpa using hlen
          rw [hsz] at R
          obtain ⟨r2, e2, h2⟩ := r.new (o := .st (dedupI is)) (o' := .set (fun k => (dedupI is).any (· == k)) (dedupI is).length) hn upd_same
          exact ⟨.ref s.heap.objs.size, _, I.laid (o := .set (fun k => (dedupI is).any (· == k)) (dedupI is).length) (t' := tk) (fun b u e => keep b u (Heap.lt_size e) e) (Nat.le_refl _) R, rfl, hq _ _ e2 r2 _ (.loc h2)⟩
        · cases hf
      · cases hf
    · cases hf
  · cases hf
/-- *e, a tuple, in a display or in a list of arguments -/
theorem sa_star {e : Expr} {es : List Expr} {p : Pos} {fa : FE} {fr : FA} (h : SE X ct e fa) (k : SA X ct es fr) (hs : starEach (.Starred e p :: es) X.env = (true, eval e X.env) :: starEach es X.env := by rfl) : SA X ct (.Starred e p :: es) (fStar fa fr) :=
  PA.imp (StX.pa_star h k hs) fun σ H Q ⟨ρ, M, env, r, he, d, M', hf, hq⟩ => by
    obtain ⟨x, M1, h1, hf⟩ := bnd_some hf
    split at hf
    · rename_i zs
      obtain ⟨ys, M2, h2, hf⟩ := bnd_some hf
      cases hf
      refine ⟨ρ, M, env, r, he, _, M1, h1, fun ρ1 H1 e1 r1 v dv => ?_⟩
      cases dv with
      | tup td ds =>
        exact ⟨_, _, rfl, .inl td.sq, ρ1, M1, env, r1, he.mono e1, ys, _, h2, fun ρ2 H2 e2 r2 vs dvs => hq ρ2 H2 (e1.trans e2) r2 _ ((ds.mono e2).append dvs)⟩
    · cases hf
/-- {k: v}, the key a whole number or a text -/
def fDict1K (fk fv : FE) : FE := fun env M => bnd (fk env (M ++ [.dct []])) fun kd M1 => bnd (fv env M1) fun vd M2 => match M2[M.length]? with
  | some (.dct []) => match keyD kd with
    | some k => some (.loc M.length, M2.set M.length (.dct (putDk [] k vd)))
    | none => none
  | _ => none
theorem se_dict1K {k v : Expr} {fk fv : FE} {pos : Pos} (hk : SE X ct k fk) (hv : SE X ct v fv) : SE X ct (.Dict [some k] [v] pos) (fDict1K fk fv) :=
  PE.imp (pe_disp (pps_cons hk hv pps_nil) rfl rfl (by intro z; cases z) (by show 1 ≤ 15; decide)) fun σ H Q ⟨ρ, M, env, r, he, d, M', hf, hq⟩ p hp => by
    obtain ⟨kd, M1, h1, hf⟩ := bnd_some hf
    obtain ⟨vd, M2, h2, hf⟩ := bnd_some hf
    obtain ⟨r1, x1, a1⟩ := r.new (o := .dct []) (o' := .dK []) hp ⟨[], upd_same, rfl, .nil⟩
    refine ⟨ρ ++ [p], M ++ [.dct []], env, r1, he.mono x1, kd, M1, h1, fun ρ2 H2 e2 r2 x dx => ⟨ρ2, M1, env, r2, (he.mono x1).mono e2, vd, M2, h2, fun ρ3 H3 e3 r3 y dy => ?_⟩⟩
    split at hf
    · rename_i hm
      split at hf
      · rename_i k0 hk0
        cases hf
        have a3 := (e2.trans e3).pre _ _ a1
        obtain ⟨a, vs, ea, b1, b2, b3, b4⟩ := r3.dct hm (.loc a3)
        cases ea
        have ev : vs = [] := List.length_eq_zero_iff.mp (by have := congrArg List.length b3; simpa using this.symm)
        subst ev
        obtain rfl := keyD_of dx hk0
        obtain ⟨p1, p2⟩ := put_of (k := k0) dy b3 b4
        obtain ⟨oo, hm', hk'⟩ := r3.addr a3
        obtain ⟨r4, e4⟩ := r3.put (o := .dct (putDk [] k0 vd)) (o' := .dK (putK [] k0 y)) a3 b2 ⟨_, upd_same, p1, p2.mono (Ext.soft (fun _ _ h => h) (soft_of b2 rfl).1 (soft_of b2 rfl).2)⟩
        exact ⟨b2, [(k0, y)], rfl, by show 1 ≤ 15; decide, hq ρ3 _ ((x1.trans (e2.trans e3)).trans e4) r4 _ (.loc (e4.pre _ _ a3))⟩
      · cases hf
    · cases hf
end
end Zl

/-! text Z23 -/
namespace Zl
open PySem L2 PySem.Spec PyProof.Rows
/-! ## properties, attributes that are added to, sets of texts, sorted(.., reverse=True) -/
section
variable {X : Cx} {ct : Ct} {k : Nat} {f C p g : Addr} {fd : FuncData} {ps : List Str} {F : FF} {fld : Str} {pos pos' : Pos} {e o v' : Expr} {fo fv : FE} {c : Nat}
/-- o.f, a property of the own class -/
def fProp (c : Nat) (fld : Str) (np : Nat) (F : FF) (fo : FE) : FE := fun env M => bnd (fo env M) fun d M1 => if isIns c fld d M1 = true ∧ 1 = np then F [d] M1 else none
theorem se_prop (ho : SE X ct o fo) (hc : ct c = some C) (cl : Cls X.K C) (hp : PropOf X.K C fld p g) (G : SF X ct k g fd ps F) (hr : Room (k + 1) X.A) (hgd : X.A.guards = some []) (hb : Binds X.K fd ps [])
    (hab : attributeBase o fld X.env (eval o X.env) = eval o X.env := by rfl) : SE X ct (.Attribute o fld pos) (fProp c fld ps.length F fo) := by
  refine ⟨fun pins s σ H Q I w => ?_⟩
  obtain ⟨ρ, M, env, r, hen, d, M', hf, hq⟩ := w
  obtain ⟨y, M1, h1, hf⟩ := bnd_some hf
  split at hf
  · rename_i hi
    refine attr_of hab (thn (ho.run pins s σ H (fun v H1 => ∃ ρ1, Ext X.K ρ H ρ1 H1 ∧ Rl X.K ct ρ1 M1 H1 ∧ DV X.K ρ1 H1 y v) I ⟨ρ, M, env, r, hen, y, M1, h1, fun ρ1 H1 e1 r1 v dv => ⟨ρ1, e1, r1, dv⟩⟩) fun u s1 z => ?_)
    obtain ⟨v, H1, I1, rv, ρ1, e1, r1, dv⟩ := z
    obtain ⟨a, dx, vfs, rfl, a3, a4⟩ := isIns_ok r1 dv hc hi.1
    obtain rfl : u = Value.ref a := rv
    obtain ⟨mA, O, _, _, _, _⟩ := ins_get I1.hok a3
    obtain ⟨od, J, _⟩ := O.look
    obtain ⟨rest, hrec⟩ := hp.rec_
    have I2 := I1.tok (s1.toks + 1)
    have hC : (PySem.W.clsIn X.K C).isSome = true := by obtain ⟨cd, q, _⟩ := PySem.W.any_some cl.hd; rw [q]; rfl
    have bt := hb { s1 with toks := s1.toks + 1 } [.ref a] I2.kIn (by simpa using hi.2)
    rw [List.append_nil] at bt
    refine PySem.W.get_bind I1.kIn J (PySem.W.plainGet_of (cl.get fld)).1 (PySem.W.findObj_data hC hp.at_ hp.get hp.tak) (PySem.W.plainGet_of (cl.get fld)).2 (wpAny_call (PySem.W.prop_get (s := { s1 with toks := s1.toks + 1 }) I1.kIn hrec ?_))
    refine codeAny_mono (G.run X.A.in1 X.stack { s1 with toks := s1.toks + 1 } H1 ⟨[.ref a], []⟩ [.ref a] [.ref a] Q E0 hr.in1 hgd I2.env0.in1 bt (.cons rfl .nil) (spF_use (ds := [y]) hi.2 e1 r1 (.cons dv .nil) hf hq)) fun z s' hz => ?_
    match z, hz with
    | .ok (.ret u), hz =>
      obtain ⟨v, H', I3, rv, q3⟩ := I2.after hz
      show wpAny _ _ (handedOut u) _ _ _; rw [PySem.W.handedOut_of (handed_of rv)]; exact wpAny_pure ⟨v, H', I3, rv, q3⟩
  · cases hf
/-- o.f op= e, whole numbers -/
def fFldAug (c : Nat) (fld : Str) (h : Int → Int → Int) (fo fv : FE) : FS := fun env M => bnd (fo env M) fun d M1 => match d with
  | .loc n => match M1[n]? with
    | some (.ins c' fs) => if c' = c then match fs.lookup fld with
        | some (.int i) => bnd (fv env M1) fun y M2 => match y with
          | .int j => match M2[n]? with
            | some (.ins c2 fs2) => if c2 = c ∧ fs2.length < 1000 then some (.nx env, M2.set n (.ins c (putD fld (.int (h i j)) fs2))) else none
            | _ => none
          | _ => none
        | _ => none
      else none
    | _ => none
  | _ => none
def rI2 (h : Int → Int → Int) : V → V → Hp → VK → Prop := fun x y H Q => ∃ i j, x = .int i ∧ y = .int j ∧ Q (.int (h i j)) H
theorem ia_add : InOp X .Add (rI2 fun i j => i + j) := in_add
theorem ia_sub : InOp X .Sub (rI2 fun i j => i - j) := in_sub
theorem ss_fldaug {op : Operator} {h : Int → Int → Int} (ho : SE X ct o fo) (hv : SE X ct v' fv) (hop : InOp X op (rI2 h)) (hc : ct c = some C) (cl : Cls X.K C) (na : NoAttr X.K C fld) :
    SS X ct (.AugAssign (.Attribute o fld pos') op v' pos) (fFldAug c fld h fo fv) :=
  PS.imp (ps_fldaug ho hv hop) fun D σ H ⟨ρ, M, env, r, he, fl, M', hf, hq⟩ => by
    obtain ⟨d, M1, h1, hf⟩ := bnd_some hf
    refine ⟨ρ, M, env, r, he, d, M1, h1, fun ρ1 H1 e1 r1 v dv => ?_⟩
    split at hf
    · split at hf
      · rename_i hm
        split at hf
        · rename_i hcc
          subst hcc
          split at hf
          · rename_i i hy
            obtain ⟨y, M2, h2, hf⟩ := bnd_some hf
            split at hf
            · rename_i j
              split at hf
              · rename_i hm2
                split at hf
                · rename_i hc2
                  cases hf
                  obtain ⟨hc2, hl⟩ := hc2
                  subst hc2
                  obtain ⟨a, C', dx, vfs, rfl, a1, a2, a3, a4⟩ := r1.ins hm dv
                  rw [hc] at a2; cases a2
                  obtain ⟨u, u1, u2⟩ := a4.look.1 _ hy
                  cases u2
                  refine ⟨a, C, dx, vfs, _, rfl, a3, cl, na, u1, ρ1, M1, env, r1, he.mono e1, _, M2, h2, fun ρ2 H2 e2 r2 w dw => ?_⟩
                  cases dw
                  obtain ⟨a', C', dx', vfs', ea', b1, b2, b3, b4⟩ := r2.ins hm2 (dv.mono e2)
                  cases ea'
                  rw [hc] at b2; cases b2
                  have xs : Ext X.K ρ2 H2 ρ2 (upd H2 a (.ins C dx' (putF fld (.int (h i j)) vfs'))) := Ext.soft (fun _ _ z => z) (fun _ q => by rw [b3] at q; cases q) fun _ _ q => by rw [b3] at q; cases q
                  obtain ⟨r3, e3⟩ := r2.put (o := .ins _ (putD fld (.int (h i j)) _)) (o' := .ins C dx' (putF fld (.int (h i j)) vfs')) b1 b3 ⟨C, dx', _, hc, upd_same, (b4.put (.int _)).mono xs⟩
                  exact ⟨i, j, rfl, rfl, dx', vfs', b3, by rw [← b4.length]; exact hl, hq ρ2 _ ((e1.trans e2).trans e3) r3 σ (((he.mono e1).mono e2).mono e3)⟩
                · cases hf
              · cases hf
            · cases hf
          · cases hf
        · cases hf
      · cases hf
    · cases hf
end
/-! ### sets of texts -/
def dedS (xs : List Str) : List Str := xs.foldl (fun acc x => if x ∈ acc then acc else acc ++ [x]) []
theorem dedS_snoc {xs : List Str} {x : Str} : dedS (xs ++ [x]) = if x ∈ dedS xs then dedS xs else dedS xs ++ [x] := by
  unfold dedS
  rw [List.foldl_append]; rfl
theorem dedS_len : ∀ n (xs : List Str), xs.length = n → (dedS xs).length ≤ n
  | 0, xs, h => by rw [List.length_eq_zero_iff.mp h]; exact Nat.le_refl _
  | n + 1, xs, h => by
    obtain ⟨ys, y, rfl⟩ : ∃ ys y, xs = ys ++ [y] := ⟨xs.dropLast, xs.getLast (by intro z; rw [z] at h; cases h), (List.dropLast_concat_getLast _).symm⟩
    have h2 : ys.length = n := by simpa using h
    have := dedS_len n ys h2
    rw [dedS_snoc]
    split
    · omega
    · simp; omega
abbrev memS (ys : List Str) : Key → Bool := fun k => ys.any fun x => decide (k = Sum.inr x)
theorem memS_str {ys : List Str} {x : Str} : memS ys (Sum.inr x) = decide (x ∈ ys) := by
  induction ys with
  | nil => rfl
  | cons y ys ih =>
    show (decide ((Sum.inr x : Key) = Sum.inr y) || memS ys (Sum.inr x)) = _
    rw [ih]
    by_cases e : x = y
    · subst e; simp
    · simp [e]
theorem setK_eq {P : Program} {w : World} {h : Heap} {a : Addr} {S S' : Key → Bool} {n n' : Nat} (hS : h.SetOf (mixKind P w) a S n) (e : ∀ k, S k = S' k) (en : n = n') : h.SetOf (mixKind P w) a S' n' := by
  cases en; cases (funext e : S = S'); exact hS
section
variable {prog : Program} {w : World} {A : Around} {R : Result → Shared → Prop} {it : Addr} {fp wr : List Addr} {G : Array GenState → Array GenState → Prop} {n : Nat} {P : Nat → Value → Prop} {St : Nat → Shared → Prop}
theorem set_texts (W : WalksS prog w A.in1 it fp wr G n P St) (z : Addr) (hz : z ∉ fp) (xs : List Str) (hn : xs.length = n) (hb : n + 1 < scanBound) (hv : ∀ i v, P i v → ∃ x t, xs[i]? = some x ∧ v = .str x t) :
    ∀ (k i : Nat) (s : Shared), n - i = k → i ≤ n → St i s → s.heap.SetOf (mixKind prog w) z (memS (dedS (xs.take i))) (dedS (xs.take i)).length →
      (∀ s', Moved (z :: wr) G s s' → s'.heap.SetOf (mixKind prog w) z (memS (dedS xs)) (dedS xs).length → R (.ok (.ret .none)) s') →
      codeAny (model prog w) A (.builtin "set.update.loop" ⟨[.ref z, .ref it], []⟩) R s := by
  have zw : z ∉ wr := fun q => hz (W.sub _ q)
  have up : ∀ b ∈ wr, b ∈ z :: wr := fun b q => List.mem_cons_of_mem _ q
  intro k
  induction k with
  | zero =>
    intro i s hk hi st S0 fin
    obtain rfl : i = n := by omega
    refine codeAny_builtin PyProof.Rows.F.entry_set_update_loop ?_; rw [Around.under_plainId PyProof.Rows.F.plain_set_update_loop _]
    show wpAny _ A.in1 (pyNext (.ref it) >>= _) _ _ s
    refine wpAny_bind (W.done s _ _ st fun s' m => ?_)
    show wpAny _ A.in1 (ret Value.none) _ _ s'
    rw [← hn, List.take_length] at S0
    exact wpAny_pure (fin s' (m.mono up) (setOf_at S0 fun o q => m.heap z o zw q))
  | succ k ih =>
    intro i s hk hi st S0 fin
    have lt : i < n := by omega
    refine codeAny_builtin PyProof.Rows.F.entry_set_update_loop ?_; rw [Around.under_plainId PyProof.Rows.F.plain_set_update_loop _]
    show wpAny _ A.in1 (pyNext (.ref it) >>= _) _ _ s
    refine wpAny_bind (W.item i s _ _ lt st fun v s' pv st' m => ?_)
    obtain ⟨x, t, ex, rfl⟩ := hv i v pv
    have S1 := setOf_at S0 fun o q => m.heap z o zw q
    show wpAny _ A.in1 (holding [Value.str x t] (setAdd z (.str x t)) >>= _) _ _ s'
    refine wpAny_bind (wpAny_holding ?_); unfold setAdd
    refine wpAny_holding (wpAny_bind ((mixKind prog w).pyHash (k := Sum.inr x) (mixKind_str prog w x t) ?_))
    have few := dedS_len i (xs.take i) (by rw [List.length_take]; omega)
    refine wpAny_setAddHashed_of (knd := mixKind prog w) (s := { s' with toks := s'.toks + 1 }) (mixKind_str prog w x t) rfl S1 (by omega) fun h' sb S2 => ?_
    have S3 : h'.SetOf (mixKind prog w) z (memS (dedS (xs.take (i + 1)))) (dedS (xs.take (i + 1))).length := by
      have et : xs.take (i + 1) = xs.take i ++ [x] := by rw [List.take_add_one, ex]; rfl
      rw [et, dedS_snoc]
      rw [memS_str] at S2
      by_cases hm : x ∈ dedS (xs.take i)
      · rw [if_pos hm]
        rw [decide_eq_true hm, if_pos rfl] at S2
        refine setK_eq S2 (fun j => ?_) rfl
        by_cases e : j = Sum.inr x
        · subst e
          rw [memS_str, decide_eq_true hm]; rfl
        · rw [decide_eq_false e, Bool.or_false]
      · rw [if_neg hm]
        rw [decide_eq_false hm, if_neg (by decide)] at S2
        refine setK_eq S2 (fun j => ?_) (by simp)
        show _ = (dedS (xs.take i) ++ [x]).any _
        rw [List.any_append]
        simp
    refine wpAny_pure ⟨plainId_quiet PyProof.Rows.F.plain_set_update_loop _, ih (i + 1) _ (by omega) lt (W.frame _ s' _ _ st' (Nat.le_succ _) fun b q o e => ?_) S3 fun s2 m2 S4 => ?_⟩
    · rw [sb.2 b (fun y : b = z => hz (y ▸ q))]; exact e
    · refine fin s2 (Moved.trans W.gtrans ((m.mono up).then_heap (Nat.le_succ _) fun b o q e => ?_) m2) S4
      rw [sb.2 b (fun y : b = z => q (y ▸ List.mem_cons_self))]; exact e
end
section
variable {prog : Program} {w : World} {A : Around} {E : Value → Shared → Prop} {s : Shared}
set_option maxHeartbeats 8000000 in
/-- set(a tuple of texts) -/
theorem call_set_texts {l : Addr} {its : Array Value} {xs : List Str} {Q : Value → Shared → Prop} (hh : A.handled = none) (hl : s.heap.IsTuple l its) (hs : its.size = xs.length) (hi : ∀ (i : Nat) v, its[i]? = some v → ∃ x t, xs[i]? = some x ∧ v = .str x t) (hb : xs.length + 1 < scanBound)
    (k : ∀ (h' : Heap) (tk : Nat), h'.SetOf (mixKind prog w) s.heap.objs.size (memS (dedS xs)) (dedS xs).length → (∀ b o, b < s.heap.objs.size → s.heap.get? b = some o → h'.get? b = some o) → Q (.ref s.heap.objs.size) { s with heap := h', toks := tk }) :
    wpAny (model prog w) A (call (.type "set") [.ref l]) Q E s := by
  obtain ⟨c, tl, z1⟩ := PySem.F.called_set.mro
  have z2 := PySem.F.called_set.made; have z3 := PySem.F.called_set.sub; have z4 := PySem.F.called_set.notType; have z5 := PySem.F.called_set.canCreate; have z6 := PySem.F.typeCall_set_1 (.ref l)
  refine wpAny_call (codeAny_of_tree ?_); show wpAny _ _ (callAny (.type "set") _) _ _ _
  refine wpAny_pure ⟨Code.quiet_builtin _ (by decide +kernel), codeAny_builtin PySem.F.entry_type_call ?_⟩; rw [Around.under_plain (weight_type_call_type "set" [.ref l] []) rfl]
  repeat (any_goals (first | assumption | wp_step))
  refine codeAny_mono (code_set_new_1 (.ref l) (E := E) (Q₁ := fun y s1 => ∃ led : Bool, y = .ref s.heap.objs.size ∧ s1 = { s with heap := s.heap.push { cls := .type "set", dict := none, data := .set #[] 0 (.fresh 0 0 led) } }) fun led => ⟨led, rfl, rfl⟩) fun r s1 hr => ?_
  match r, hr with
  | .error e, hr => exact hr
  | .ok (.ret y), hr =>
    obtain ⟨led, rfl, rfl⟩ := hr
    have g0 : (s.heap.push { cls := .type "set", dict := none, data := .set #[] 0 (.fresh 0 0 led) }).get? s.heap.objs.size = some { cls := .type "set", dict := none, data := .set #[] 0 (.fresh 0 0 led) } := Heap.get?_push_size _ rfl
    have tS : Shared.TypeIs { s with heap := s.heap.push { cls := .type "set", dict := none, data := .set #[] 0 (.fresh 0 0 led) } } (.ref s.heap.objs.size) "set" := ⟨_, g0, rfl⟩
    have z7 := PySem.F.called_set.init.lookup; have z8 := PySem.F.called_set.init.bind (.ref s.heap.objs.size)
    repeat (any_goals (first | assumption | wp_step))
    refine codeAny_mono (codeAny_call_builtin (R := wants (fun r s2 => r = .none ∧ ∃ h' tk, s2 = { s with heap := h', toks := tk } ∧ h'.SetOf (mixKind prog w) s.heap.objs.size (memS (dedS xs)) (dedS xs).length ∧ (∀ b o, b < s.heap.objs.size → s.heap.get? b = some o → h'.get? b = some o)) E) PySem.F.called_set.init.plain PySem.F.entry_set_init (check_set_init_1 tS ?_)) fun r2 s2 hr2 => ?_
    · obtain ⟨⟨oc, od, odata, os⟩, ho, q1, nl, q2⟩ := hl
      simp only at q1 q2
      subst q1; subst q2
      have g1 : (s.heap.push { cls := .type "set", dict := none, data := .set #[] 0 (.fresh 0 0 led) }).get? l = some { cls := .type "tuple", dict := od, data := .seq its nl, slots := os } := Heap.get?_push_of_some _ ho
      have y1 := PySem.F.sub_tuple_set; have y2 := PySem.F.sub_tuple_frozenset
      have y3 : (Value.type "tuple" == Value.type "dict") = false := by decide
      have l1 : (s.heap.push { cls := .type "set", dict := none, data := .set #[] 0 (.fresh 0 0 led) }).IsTuple l its := ⟨_, g1, rfl, nl, rfl⟩
      unfold Builtin.«set.__init__» noKeywords Builtin.Frozenset.updateFrom; generalize hPI : pyIter = PI; wp_walk; subst hPI
      refine wpAny_pyIter_tuple l1 ?_
      refine wpAny_bind (wpAny_runValue ?_)
      have lS : l < s.heap.objs.size := Heap.lt_size ho
      have h3 : A.in1.in1.in1.handled = none := by simp [hh]
      have sz : (s.heap.push { cls := .type "set", dict := none, data := .set #[] 0 (.fresh 0 0 led) }).objs.size = s.heap.objs.size + 1 := Heap.size_push ..
      have ne : l ≠ (s.heap.push { cls := .type "set", dict := none, data := .set #[] 0 (.fresh 0 0 led) }).objs.size := by rw [sz]; exact Nat.ne_of_lt (Nat.lt_succ_of_lt lS)
      have nf : s.heap.objs.size ∉ [(s.heap.push { cls := .type "set", dict := none, data := .set #[] 0 (.fresh 0 0 led) }).objs.size, l] := by
        rw [sz]; simp only [List.mem_cons, List.not_mem_nil, or_false, not_or]; exact ⟨Nat.ne_of_lt (Nat.lt_succ_self _), Nat.ne_of_gt lS⟩
      refine set_texts ((Walks.tuple h3 _ l ne its).toS) s.heap.objs.size nf xs hs.symm (by omega) hi (its.size - 0) 0 _ (by omega) (Nat.zero_le _) ⟨⟨_, Heap.get?_push_size _ rfl, rfl, rfl⟩, (l1.push _)⟩ ?xa ?xb
      case xa =>
        have g2 : ((s.heap.push { cls := .type "set", dict := none, data := .set #[] 0 (.fresh 0 0 led) }).push { cls := .type "tuple_iterator", data := .fields #[.ref l, .int 0 0] }).get? s.heap.objs.size = some { cls := .type "set", dict := none, data := .set #[] 0 (.fresh 0 0 led) } := Heap.get?_push_of_some _ g0
        have fr : Heap.SetOf (mixKind prog w) _ s.heap.objs.size (fun _ => false) 0 := ⟨_, #[], 0, _, g2, ⟨rfl, rfl, rfl⟩, rfl, fun e he => by simp at he, fun k => by simp, by decide, by rfl, rfl⟩
        exact setK_eq fr (fun _ => rfl) rfl
      case xb =>
        intro s' m S'
        obtain ⟨h', g', d', tk', os'⟩ := s'
        obtain rfl : g' = s.gens := m.gens
        obtain rfl : d' = s.drawn := m.drawn
        obtain rfl : os' = s.os := m.os
        show wpAny _ _ _ _ _ _
        refine wpAny_pure ?_
        show wpAny _ _ (ret Value.none) _ _ _
        refine wpAny_pure ⟨rfl, h', tk', rfl, S', fun b o hb' e => ?_⟩
        exact m.heap b o (by rw [sz]; simp only [List.mem_cons, List.not_mem_nil, or_false, not_or]; exact ⟨Nat.ne_of_lt hb', Nat.ne_of_lt (Nat.lt_succ_of_lt hb')⟩) (Heap.get?_push_of_some _ (Heap.get?_push_of_some _ e))
    · match r2, hr2 with
      | .error e, hr2 => exact hr2
      | .ok (.ret y), hr2 =>
        obtain ⟨rfl, h', tk, rfl, S', keep⟩ := hr2
        repeat (any_goals (first | assumption | wp_step))
        exact k _ _ S' keep
end
end Zl

/-! text Z24 -/
namespace Zl
open PySem L2 PySem.Spec PyProof.Rows
def strsOf : List Dv → Option (List Str)
  | [] => some []
  | .str x :: ds => match strsOf ds with
    | some xs => some (x :: xs)
    | none => none
  | _ :: _ => none
theorem strsOf_eq : ∀ {ds : List Dv} {xs : List Str}, strsOf ds = some xs → ds = xs.map .str
  | [], xs, h => by cases h; rfl
  | d :: ds, xs, h => by
    unfold strsOf at h
    split at h
    · contradiction
    · rename_i x r e
      split at h
      · rename_i ys hy
        cases h
        cases e
        rw [strsOf_eq hy]; rfl
      · cases h
    · cases h
theorem strsOf_map : ∀ xs : List Str, strsOf (xs.map .str) = some xs
  | [] => rfl
  | x :: xs => by
    show (match strsOf (xs.map .str) with | some ys => some (x :: ys) | none => none) = _
    rw [strsOf_map xs]
theorem vs_strs {K : Frg} {ρ : List Addr} {H : Hp} : ∀ {xs : List Str} {vs : List V}, DVs K ρ H (xs.map .str) vs → vs = xs.map V.str
  | [], _, h => by cases h; rfl
  | x :: xs, _, h => by
    cases h with
    | cons a b =>
      cases a
      rw [vs_strs b]; rfl
theorem vals_strs : ∀ {xs : List Str} {us : List Value} {i : Nat} {u : Value}, Vals (xs.map V.str) us → us[i]? = some u → ∃ x t, xs[i]? = some x ∧ u = .str x t
  | [], _, i, u, h, e => by cases h; simp at e
  | x :: xs, _, 0, u, h, e => by
    cases h with
    | cons a b =>
      simp at e
      subst e
      obtain ⟨t, rfl⟩ := a
      exact ⟨x, t, rfl, rfl⟩
  | x :: xs, _, i + 1, u, h, e => by
    cases h with
    | cons a b =>
      obtain ⟨y, t, h1, h2⟩ := vals_strs (i := i) b (by simpa using e)
      exact ⟨y, t, by simpa using h1, h2⟩
def setOfE : List Dv → Mem → Rz
  | [.tup ys], M => match strsOf ys with
    | some xs => if xs.length < 4000 then some (.loc M.length, M ++ [.sk (dedS xs)]) else none
    | none => none
  | ds, M => setOfD ds M
section
variable {X : Cx} {ct : Ct}
theorem sc_setE (hc : X.calm = true) (hp : ct.prg = X.prog := by rfl) (hw : ct.wd = X.w := by rfl) : SC X ct (.type "set") setOfE := by
  intro pins s σ H xs us Q I rv h
  obtain ⟨ρ, M, ds, r, dv, z, M', hf, hq⟩ := h
  unfold setOfE at hf
  split at hf
  · split at hf
    · rename_i ws hx
      split at hf
      · rename_i hl
        cases hf
        have hy := strsOf_eq hx
        subst hy
        obtain ⟨v, rfl, d1⟩ := dvs_one dv
        cases d1 with
        | @tup _ vs l td dd =>
          have hv := vs_strs dd
          subst hv
          obtain ⟨u, rfl, ru⟩ := vals1 rv
          cases ru
          obtain ⟨its, rvv, pl, hz⟩ := I.tuple td.sq
          have hlen : its.length = ws.length := by have := rvv.length; simpa using this.symm
          have hn : H s.heap.objs.size = none := I.hok.fresh (Nat.le_refl _)
          refine call_set_texts (xs := ws) (I.ok.hd hc) (its := its.toArray) pl (by simpa using hlen) (fun i v e => vals_strs rvv (by simpa using e)) (by
            have h4 : 4001 < scanBound := by decide
            omega) fun h' tk R keep => ?_
          obtain ⟨r2, e2, h2⟩ := r.new (o := .sk (dedS ws)) (o' := SetK X.prog X.w s.heap.objs.size (memS (dedS ws)) (dedS ws).length) hn (by
            show upd H _ _ _ = some (SetK ct.prg ct.wd _ _ _)
            rw [hp, hw]; exact upd_same)
          exact ⟨.ref s.heap.objs.size, _, I.laid (o := SetK X.prog X.w s.heap.objs.size (memS (dedS ws)) (dedS ws).length) (t' := tk) (fun b u e => keep b u (Heap.lt_size e) e) (Nat.le_refl _) (setK_new R), rfl, hq _ _ e2 r2 _ (.loc h2)⟩
      · cases hf
    · cases hf
  · exact sc_set hc pins s σ H xs us Q I rv ⟨ρ, M, _, r, dv, z, M', hf, hq⟩
/-- sorted(xs, reverse=True), where xs is in that order -/
def downB : List Int → Bool
  | [] => true
  | x :: xs => xs.all (fun y => decide (y ≤ x)) && downB xs
theorem down_pw : ∀ {xs : List Int}, downB xs = true → xs.Pairwise (· ≥ ·)
  | [], _ => .nil
  | x :: xs, h => by
    unfold downB at h
    rw [Bool.and_eq_true, List.all_eq_true] at h
    exact .cons (fun y hy => of_decide_eq_true (h.1 y hy)) (down_pw h.2)
def fSortR (fa : FE) : FE := fun env M => bnd (fa env M) fun d M1 => match d with
  | .loc n => match M1[n]? with
    | some (.lst ys) => match intsOf ys with
      | some is => if downB is then some (.loc M1.length, M1 ++ [.lst ys]) else none
      | none => none
    | _ => none
  | _ => none
theorem se_sortR {e : Expr} {fa : FE} {p p2 kpos pos : Pos} (hg : Gl X "sorted") (hm : X.mg "sorted" = none) (ha : SE X ct e fa)
    (hst : starEach [e] X.env = (false, eval e X.env) :: starEach [] X.env := by rfl) (he : backTo pos (starEach [e] X.env) = (false, eval e X.env) :: backTo pos (starEach [] X.env) := by rfl) (hpl : (backTo pos (starEach [e] X.env)).any (·.1) = false := by rfl) :
    SE X ct (.Call (.Name "sorted" p) [e] [⟨some "reverse", .Constant (.bool true) 0 p2, kpos⟩] pos) (fSortR fa) :=
  PE.imp (pe_callBK (cr_sortedRev (b := true)) hg hm (by decide +kernel) (pa_cons ha pa_nil hst) (pk_cons pe_bl pk_nil) (he := he) (hpl := hpl)) fun σ H Q ⟨ρ, M, env, r, hen, d, M', hf, hq⟩ => by
    obtain ⟨x, M1, h1, hf⟩ := bnd_some hf
    refine ⟨ρ, M, env, r, hen, x, M1, h1, fun ρ1 H1 e1 r1 v dv => ?_⟩
    split at hf
    · split at hf
      · rename_i ys hm
        split at hf
        · rename_i is hi
          split at hf
          · rename_i hd
            cases hf
            have hy := intsOf_eq hi
            subst hy
            obtain ⟨l, vs, rfl, a1, hH, a3⟩ := r1.lst hm dv
            have hv := vs_ints a3
            subst hv
            refine ⟨l, is, rfl, rfl, SqL.of hH, fun ns' q hP hO hn => ?_⟩
            have hO' : ns'.Pairwise (· ≥ ·) := hO
            have e := List.Perm.eq_of_pairwise (le := fun a b : Int => a ≥ b) (fun a b _ _ h1 h2 => Int.le_antisymm h2 h1) hO' (down_pw hd) hP
            subst e
            obtain ⟨r2, e2, h2⟩ := r1.newL hn a3
            exact hq _ _ (e1.trans e2) r2 _ (.loc h2)
          · cases hf
        · cases hf
      · cases hf
    · cases hf
end
end Zl

/-! text Z25 -/
namespace Zl
open PySem L2 PySem.Spec PyProof.Rows
/-! ## {e for t in xs if c}, texts -/
section
variable {X : Cx}
/-- the new set stands at D -/
def tScK (P : Program) (w : World) (wi : TI) (g : TG) (tt : TT) (te : TE) (vs : List Nat) : TE := fun σ H Q => wi σ H fun J H1 => ∀ D, H1 D = none → ∃ W : Nat → Nat → Hp → Prop, (∃ m, W 0 m (upd H1 D (SetK P w D (memS []) 0))) ∧ ∀ i m H, W i m H →
  (J.stop i H ∧ Q (.ref D) H) ∨ (J.go i H ∧ ∃ Nx : Hp → Prop, (∀ H', Nx H' → ∃ m', m' < m ∧ W (i + 1) m' H') ∧ ∀ x H', J.yld i H x H' → g x (wipe σ vs) H' fun σ2 H2 => wipe σ2 vs = wipe σ vs ∧ tt σ2 H2 fun b H3 =>
    if b = true then te σ2 H3 fun y H4 => ∃ (c : Str) (S : Key → Bool) (n : Nat), y = .str c ∧ H4 D = some (SetK P w D S n) ∧ n + 1 < scanBound ∧ Nx (upd H4 D (SetK P w D (fun j => S j || decide (j = Sum.inr c)) (if S (Sum.inr c) = true then n else n + 1))) else Nx H3)
theorem scK_core {pins : List (Addr × Obj)} {s : Shared} {σ : L2.St} {H : Hp} {Q : VK} {elt tg iter : Expr} {ifs : List Expr} {scope : Scope} {own : List (Str × Nat)} {pos pos' : Pos} {wi : TI} {g : TG} {tt : TT} {te : TE} {Qf : Value → Shared → Prop}
    (hc : X.calm = true) (hN : X.N.Nodup) (I : Inv X pins σ H s) (hi : PI X tg iter wi) (ok : BlkOk X.N X.env.scope scope own)
    (hg : ∀ s H C cl fp, PG (Cx.cb X scope s H C cl fp) tg g) (ht : ∀ s H C cl fp, PTs (Cx.cb X scope s H C cl fp) ifs tt) (he : ∀ s H C cl fp, PE (Cx.cb X scope s H C cl fp) elt te) (hs : ∀ x, foldedSetIterable iter X.env x = pure x)
    (h : tScK X.prog X.w wi g tt te (own.map (·.2)) σ H Q)
    (fin0 : ∀ D C s' m H', Inv X pins σ H' s' → Q (.ref D) H' → s'.heap.Ns C m → FpOk X pins H' C → compPost (model X.prog X.w) X.A X.xe none Qf (.ref D) C (.ok .next) s') :
    wpAny (model X.prog X.w) X.A (comprehension (.SetComp elt [⟨tg, iter, ifs, 0⟩] scope pos) scope X.env pos' (newSet (.type "set")) false (eval iter X.env) none) Qf X.xe s := by
  have fr : ∀ y ∈ scope.names, y.2 = .free → ∃ c, X.env.cells.lookup y.1 = some c := fun y hy e => (ok.free y hy e).elim (fun k => I.ok.has _ (.inl k)) fun k => I.ok.has _ (.inr k)
  refine wpAny_comprehension_free (use := none) rfl hs (closure_ok fr) ok.kind (fun y hy e => by rw [ok.uniq y hy, e]) (thn (hi.run pins s σ H _ I h) fun xv t1 hx => thn hx fun itv t2 z => ?_)
  obtain ⟨it, fp, tn, J, B2, e, J2, T, u2, v2, q⟩ := z
  subst e
  refine PpSet.newSet_ok (newEnv_comp ?_)
  generalize eD : t2.heap.objs.size = D
  obtain ⟨W, ⟨m0, w0⟩, turn⟩ := q D (J2.hok.fresh (Nat.le_of_eq eD))
  generalize e3 : ({ t2 with heap := t2.heap.push { cls := .type "set", dict := none, data := .set #[] 0 (.fresh 0 0 (!X.w.params.followText "set-order")) } } : Shared) = t3
  have hp3 : t3.heap = t2.heap.push { cls := .type "set", dict := none, data := .set #[] 0 (.fresh 0 0 (!X.w.params.followText "set-order")) } := by rw [← e3]
  have J3 : Inv X pins σ (upd B2 D (SetK X.prog X.w D (memS []) 0)) t3 := by
    rw [← e3]
    refine J2.laid (t' := t2.toks) (fun b o e => Heap.get?_push_of_some _ e) (Nat.le_of_eq eD) ?_
    rw [← eD]
    exact setK_new ⟨_, #[], 0, _, Heap.get?_push_size _ rfl, ⟨rfl, rfl, rfl⟩, rfl, fun e he => by simp at he, fun k => by simp, by decide, by rfl, rfl⟩
  have lo : ∀ b ∈ fp, b < t2.heap.objs.size := fun b hb => by obtain ⟨o, e, _⟩ := T.obj _ _ u2 b hb; exact Heap.lt_size e
  have f3 : ∀ b ∈ fp, FpOk X pins (upd B2 D (SetK X.prog X.w D (memS []) 0)) b ∧ b < t3.heap.objs.size := fun b hb => ⟨⟨by rw [upd_ne (by rw [← eD]; exact Nat.ne_of_lt (lo b hb))]; exact (v2 b hb).1, (v2 b hb).2⟩, by rw [hp3, Heap.size_push]; exact Nat.lt_succ_of_lt (lo b hb)⟩
  have u3 : tn 0 t3.heap := T.keep _ _ _ u2 fun b _ o e => by rw [hp3]; exact Heap.get?_push_of_some _ e
  have J4 := block_start J3 ok hN f3
  generalize ecl : cellsFrom (t3.heap.objs.size + 1) scope.names (cloFrom X.env.cells scope.names []) = cl at J4 ⊢
  have pg : PG (X.blk t3 (upd B2 D (SetK X.prog X.w D (memS []) 0)) scope (compEnvC scope cl t3.heap.objs.size X.env) fp) tg g := hg t3 _ _ cl fp
  have pt : PTs (X.blk t3 (upd B2 D (SetK X.prog X.w D (memS []) 0)) scope (compEnvC scope cl t3.heap.objs.size X.env) fp) ifs tt := ht t3 _ _ cl fp
  have pe : PE (X.blk t3 (upd B2 D (SetK X.prog X.w D (memS []) 0)) scope (compEnvC scope cl t3.heap.objs.size X.env) fp) elt te := he t3 _ _ cl fp
  have nf : ∀ b ∈ fp, (upd B2 D (SetK X.prog X.w D (memS []) 0)) b = none := fun b hb => (f3 b hb).1.1
  subst ecl
  show codeAny _ _ (.compStart (.SetComp elt [⟨tg, iter, ifs, 0⟩] scope pos) 0 (.ref it) (.ref D) (compEnvC scope (cellsFrom (t3.heap.objs.size + 1) scope.names (cloFrom X.env.cells scope.names [])) t3.heap.objs.size X.env)) (compPost (model X.prog X.w) X.A X.xe none Qf (.ref D) t3.heap.objs.size) { t3 with heap := pushCells (t3.heap.push { cls := .type "dict", data := .dict #[] }) scope.names }
  generalize hce : compEnvC scope (cellsFrom (t3.heap.objs.size + 1) scope.names (cloFrom X.env.cells scope.names [])) t3.heap.objs.size X.env = ce at J4 pg pt pe ⊢
  have cL : ce.locals = t3.heap.objs.size := by subst hce; rfl
  generalize eB3 : upd B2 D (SetK X.prog X.w D (memS []) 0) = B3 at J3 J4 pg pt pe w0 nf f3
  generalize e4 : ({ t3 with heap := pushCells (t3.heap.push { cls := .type "dict", data := .dict #[] }) scope.names } : Shared) = t4 at J4 ⊢
  have u4 : tn 0 t4.heap := T.keep _ _ _ u3 fun b _ o e => by rw [← e4]; exact pushCells_keeps _ _ _ _ (Heap.get?_push_of_some _ e)
  have fpo : ∀ {σ' : L2.St} {H' : Hp} {s' : Shared}, Inv (X.blk t3 B3 scope ce fp) [] σ' H' s' → (∀ b ∈ fp, H' b = none) → ∀ b ∈ fp, FpOk (X.blk t3 B3 scope ce fp) [] H' b := fun {σ' H' s'} K hn b hb =>
    ⟨hn b hb, (K.ok.exf b hb).1, K.ok.exfs b hb, .inl hb, fun x c e => (K.ok.exf b hb).2 x c e, fun p hp => absurd (show p ∈ ([] : List (Addr × Obj)) ++ [] from hp) (by simp)⟩
  have loop : codeAny (model X.prog X.w) X.A (.compLoop (.SetComp elt [⟨tg, iter, ifs, 0⟩] scope pos) 0 (.ref it) (.ref D) ce) (compPost (model X.prog X.w) X.A X.xe none Qf (.ref D) t3.heap.objs.size) t4 := by
    refine PpSet.compLoopS_any (fun n s' => ∃ i H', Inv (X.blk t3 B3 scope ce fp) [] (wipe σ (own.map (·.2))) H' s' ∧ tn i s'.heap ∧ (∀ b ∈ fp, H' b = none) ∧ W i n H') ?_ m0 ⟨0, B3, J4, u4, nf, w0⟩
    rintro n t5 ⟨i, B5, J5, u5, n5, w5⟩
    rcases turn i n B5 w5 with ⟨stop, qq⟩ | ⟨go, Nx, hNx, step⟩
    · refine thnF (T.done (X.blk t3 B3 scope ce fp) rfl rfl rfl hc i [] t5 _ B5 (fun _ _ => False) J5 (fpo J5 n5) u5 stop) fun r t6 z => ?_
      obtain ⟨rfl, J6⟩ := z
      have J7 : Inv X pins σ B5 t6 := J3.call' (ch := fp) J6.os J6.base J6.hok J6.bare fun b hb => ⟨(f3 b hb).1.2.2.2.1, (f3 b hb).1.2.1, (f3 b hb).1.2.2.2.2.1, (f3 b hb).1.2.2.2.2.2⟩
      have nC : B5 t3.heap.objs.size = none := cL ▸ (show B5 ce.locals = none from J6.free)
      obtain ⟨m, hn, _⟩ := J6.loc
      have hn : t6.heap.Ns t3.heap.objs.size m := cL ▸ (show t6.heap.Ns ce.locals m from hn)
      exact fin0 D t3.heap.objs.size t6 m B5 J7 qq hn (J3.fpOk (Nat.le_refl _) nC)
    · refine thnF (T.item (X.blk t3 B3 scope ce fp) rfl rfl rfl hc i [] t5 _ B5 (fun _ _ => False) J5 (fpo J5 n5) u5 go) fun r t6 z => ?_
      obtain ⟨u, rfl, h6⟩ := z
      refine thnF h6 fun _ t7 ⟨x, B7, J7, r7, y7, u7, n7⟩ => ?_
      refine thnF (pg.run _ t7 _ B7 x u _ (J7.pinned (fpo J7 n7) (T.obj _ _ u7)) r7 (step x B7 y7)) fun _ t8 ⟨σ8, B8, J8, w8, q8⟩ => ?_
      refine thnF (pt.run _ t8 σ8 B8 _ J8 q8) fun b t9 ⟨B9, J9, q9⟩ => ?_
      have done : ∀ {s' : Shared} {H' : Hp}, Inv (X.blk t3 B3 scope ce fp) ([] ++ pinsAt fp t7.heap) σ8 H' s' → Nx H' → ∃ m, m < n ∧ ∃ i H', Inv (X.blk t3 B3 scope ce fp) [] (wipe σ (own.map (·.2))) H' s' ∧ tn i s'.heap ∧ (∀ b ∈ fp, H' b = none) ∧ W i m H' := fun {s' H'} K nx => by
        obtain ⟨m', hm, w'⟩ := hNx H' nx
        have pn : ∀ b ∈ fp, ∀ o, t7.heap.get? b = some o → s'.heap.get? b = some o ∧ H' b = none := fun b hb o e => have z := K.pin (b, o) (List.mem_append_right _ (List.mem_append_right _ (mem_pinsAt hb e))); ⟨z.1, z.2.1⟩
        refine ⟨m', hm, i + 1, H', (K.unpinned (pins := [])).weak (by rw [← w8, wipe_length]) (fun j v e => ?_), T.keep _ _ _ u7 fun b hb o e => (pn b hb o e).1, fun b hb => ?_, w'⟩
        · rw [← w8] at e; exact (wipe_some e).1
        · obtain ⟨o, e, _⟩ := T.obj _ _ u7 b hb; exact (pn b hb o e).2
      cases b with
      | false => simp only [Bool.false_eq_true, if_false] at q9 ⊢; exact done J9 q9
      | true =>
        simp only [if_true] at q9 ⊢
        refine thnF (pe.run _ t9 σ8 B9 _ J9 q9) fun z t10 ⟨yv, B10, J10, r10, cb, S0, n0, ey, d10, z10, nx⟩ => ?_
        subst ey
        exact thnF (mt_saddK (X := X.blk t3 B3 scope ce fp) _ t10 σ8 B10 (.ref D) [kV (Sum.inr cb)] (.ref D) [z] (fun _ H' => Nx H') J10 rfl (.cons r10 .nil) ⟨D, Sum.inr cb, S0, n0, rfl, rfl, d10, z10, nx⟩) fun _ t11 ⟨_, B11, J11, _, nx'⟩ => done J11 nx'
  exact PpSet.codeAny_compStart_set loop (T.self X.A 0 _ _ _ u4 loop)
theorem pe_scK {elt tg iter : Expr} {ifs : List Expr} {scope : Scope} {own : List (Str × Nat)} {pos : Pos} {wi : TI} {g : TG} {tt : TT} {te : TE} (hc : X.calm = true) (hN : X.N.Nodup) (hi : PI X tg iter wi) (ok : BlkOk X.N X.env.scope scope own)
    (hg : ∀ s H C cl fp, PG (Cx.cb X scope s H C cl fp) tg g) (ht : ∀ s H C cl fp, PTs (Cx.cb X scope s H C cl fp) ifs tt) (he : ∀ s H C cl fp, PE (Cx.cb X scope s H C cl fp) elt te) (hs : ∀ x, foldedSetIterable iter X.env x = pure x := by intro _; rfl) :
    PE X (.SetComp elt [⟨tg, iter, ifs, 0⟩] scope pos) (tScK X.prog X.w wi g tt te (own.map (·.2))) := by
  refine ⟨fun pins s σ H Q I h => ?_⟩
  rw [PpSet.eval_SetComp]
  refine scK_core hc hN I hi ok hg ht he hs h fun D C s' m H' I' q hn f => ⟨m, hn, fun h2 sb => ?_⟩
  obtain ⟨f0, f1, f2, f3, f4, f5⟩ := f
  exact ⟨.ref D, H', I'.turned (t' := s'.toks) (fun b o hb e => (sb.2 b hb).trans e) f0 f1 f3 f4 f5, rfl, q⟩
end
/-- the turns: the new set stands at cell n -/
def compSF (it : Stp) (g : FG) (ft : FT) (fe : FE) (e0 : En) (n : Nat) : Nat → Nat → Mem → Option Mem
  | 0, i, M => match it i M with
    | some none => some M
    | _ => none
  | k + 1, i, M => match it i M with
    | some none => some M
    | some (some d) => match g d e0 M with
      | some (e1, M1) => match ft e1 M1 with
        | some (true, M2) => match fe e1 M2 with
          | some (.str y, M3) => match M3[n]? with
            | some (.sk acc) => if acc.length < 4000 then compSF it g ft fe e0 n k (i + 1) (M3.set n (.sk (if y ∈ acc then acc else acc ++ [y]))) else none
            | _ => none
          | _ => none
        | some (false, M2) => compSF it g ft fe e0 n k (i + 1) M2
        | none => none
      | none => none
    | none => none
def fCompS (fi : FI) (vs : List Nat) (g : FG) (ft : FT) (fe : FE) : FE := fun env M => bnd (fi env M) fun src M1 =>
  match compSF src.stp g ft fe (wipeE env vs) M1.length src.many 0 (M1 ++ [.sk []]) with
  | some M2 => some (.loc M1.length, M2)
  | none => none
section
variable {X : Cx} {ct : Ct} {tg iter : Expr} {pos : Pos} {fe : FE} {fi : FI} {g : FG}
theorem sk_put {ys : List Str} {y : Str} : (fun j : Key => memS ys j || decide (j = Sum.inr y)) = memS (if y ∈ ys then ys else ys ++ [y]) := by
  funext j
  by_cases h : y ∈ ys
  · rw [if_pos h]
    by_cases e : j = Sum.inr y
    · subst e
      rw [memS_str, decide_eq_true h]; rfl
    · rw [decide_eq_false e, Bool.or_false]
  · rw [if_neg h]
    show _ = (ys ++ [y]).any _
    rw [List.any_append]
    simp
theorem sk_len {ys : List Str} {y : Str} : (if memS ys (Sum.inr y) = true then ys.length else ys.length + 1) = (if y ∈ ys then ys else ys ++ [y]).length := by
  rw [memS_str]
  by_cases h : y ∈ ys
  · simp [h]
  · simp [h]
theorem sc_imp {vs : List Nat} {ft : FT} {σ : L2.St} {H : Hp} {Q : VK} (hp : ct.prg = X.prog) (hw : ct.wd = X.w) (w : tE X.K ct (fCompS fi vs g ft fe) σ H Q) : tScK X.prog X.w (tI X.K ct fi) (tG X.K ct vs g) (tT X.K ct ft) (tE X.K ct fe) vs σ H Q := by
  obtain ⟨ρ, M, env, r, he, d, M', hf, hq⟩ := w
  obtain ⟨src, M1, h1, hf⟩ := bnd_some hf
  split at hf
  · rename_i M2 hc
    cases hf
    refine ⟨ρ, M, env, r, he, src, M1, h1, fun ρ0 H0 e0 r0 J hJ D hD => ?_⟩
    obtain ⟨rN, xN, aN⟩ := r0.new (o := .sk []) (o' := SetK X.prog X.w D (memS []) 0) hD (by
      show upd H0 _ _ _ = some (SetK ct.prg ct.wd _ _ _)
      rw [hp, hw]; exact upd_same)
    refine ⟨fun i m H => ∃ ρ M, Ext X.K ρ0 H0 ρ H ∧ Rl X.K ct ρ M H ∧ ρ[M1.length]? = some D ∧ compSF src.stp g ft fe (wipeE env vs) M1.length m i M = some M' ∧ Aft X.K ct ρ H M' fun ρ' H' => ∀ v, DV X.K ρ' H' (.loc M1.length) v → Q v H',
      ⟨src.many, ρ0 ++ [D], _, xN, rN, aN, hc, (hq.later e0).later xN⟩, ?_⟩
    rintro i m H ⟨ρ, M, x0, r, aD, hf, hq⟩
    have hj := hJ i ρ M H x0 r
    have he' := ((he.mono e0).mono x0).wipe vs
    cases q : src.stp i M with
    | none =>
      cases m with
      | zero => rw [compSF, q] at hf; cases hf
      | succ m => rw [compSF, q] at hf; cases hf
    | some o =>
      rw [q] at hj
      cases o with
      | none =>
        have e : some M = some M' := by
          cases m with
          | zero => rw [compSF, q] at hf; exact hf
          | succ m => rw [compSF, q] at hf; exact hf
        cases e
        exact .inl ⟨hj, hq ρ H .refl r _ (.loc aD)⟩
      | some d =>
        cases m with
        | zero => rw [compSF, q] at hf; cases hf
        | succ m =>
          rw [compSF, q] at hf
          dsimp only at hf
          refine .inr ⟨hj.1, fun H' => ∃ ρ M, Ext X.K ρ0 H0 ρ H' ∧ Rl X.K ct ρ M H' ∧ ρ[M1.length]? = some D ∧ compSF src.stp g ft fe (wipeE env vs) M1.length m (i + 1) M = some M' ∧ Aft X.K ct ρ H' M' fun ρ' H' => ∀ v, DV X.K ρ' H' (.loc M1.length) v → Q v H',
            fun H' n => ⟨m, Nat.lt_succ_self m, n⟩, fun x H' hy => ?_⟩
          obtain ⟨y1, y2, y3⟩ := hj.2 x H' hy
          split at hf
          · rename_i e1 N1 g1
            refine ⟨ρ, M, wipeE env vs, d, y2, he'.mono y1, y3, e1, N1, g1, fun ρ1 H1 x1 r1 σ1 en1 oe => ⟨wipe_eq oe, ?_⟩⟩
            split at hf
            · rename_i N2 g2
              refine ⟨ρ1, N1, e1, r1, en1, true, N2, g2, fun ρ2 H2 x2 r2 => ?_⟩
              dsimp only
              rw [if_pos rfl]
              split at hf
              · rename_i y N3 g3
                refine ⟨ρ2, N2, e1, r2, en1.mono x2, _, N3, g3, fun ρ3 H3 x3 r3 v dv => ?_⟩
                cases dv
                split at hf
                · rename_i acc hm
                  split at hf
                  · rename_i hl
                    have xx := ((y1.trans x1).trans x2).trans x3
                    have aD3 := xx.pre _ _ aD
                    obtain ⟨b, eb, b1, b2⟩ := r3.sk hm (.loc aD3)
                    cases eb
                    rw [hp, hw] at b2
                    obtain ⟨r4, x4⟩ := r3.put (o := .sk (if y ∈ acc then acc else acc ++ [y])) (o' := SetK X.prog X.w D (memS (if y ∈ acc then acc else acc ++ [y])) (if y ∈ acc then acc else acc ++ [y]).length) aD3 b2 (by
                      show upd H3 _ _ _ = some (SetK ct.prg ct.wd _ _ _)
                      rw [hp, hw]; exact upd_same)
                    have hs : 4001 < scanBound := by decide
                    refine ⟨y, memS acc, acc.length, rfl, b2, by omega, ?_⟩
                    rw [sk_put, sk_len]
                    exact ⟨ρ3, _, (x0.trans xx).trans x4, r4, aD3, hf, hq.later (xx.trans x4)⟩
                  · cases hf
                · cases hf
              · cases hf
            · rename_i N2 g2
              refine ⟨ρ1, N1, e1, r1, en1, false, N2, g2, fun ρ2 H2 x2 r2 => ?_⟩
              dsimp only
              rw [if_neg (by decide)]
              have xx := (y1.trans x1).trans x2
              exact ⟨ρ2, N2, x0.trans xx, r2, xx.pre _ _ aD, hf, hq.later xx⟩
            · cases hf
          · cases hf
  · cases hf
theorem se_compS {elt : Expr} {ifs : List Expr} {scope : Scope} {own : List (Str × Nat)} {ft : FT} (hc : X.calm = true) (hN : X.N.Nodup) (hi : SI X ct tg iter fi) (ok : BlkOk X.N X.env.scope scope own)
    (hg : ∀ s H C cl fp, SG (Cx.cb X scope s H C cl fp) ct (own.map (·.2)) tg g) (ht : ∀ s H C cl fp, STs (Cx.cb X scope s H C cl fp) ct ifs ft)
    (he : ∀ s H C cl fp, SE (Cx.cb X scope s H C cl fp) ct elt fe) (hs : ∀ x, foldedSetIterable iter X.env x = pure x := by intro _; rfl) (hp : ct.prg = X.prog := by rfl) (hw : ct.wd = X.w := by rfl) : SE X ct (.SetComp elt [⟨tg, iter, ifs, 0⟩] scope pos) (fCompS fi (own.map (·.2)) g ft fe) :=
  PE.imp (pe_scK hc hN hi ok hg ht he hs) fun _ _ _ w => sc_imp hp hw w
end
end Zl

/-! text Z26 -/
namespace Zl
open PySem L2 PySem.Spec PyProof.Rows
/-! ## sorted(set(a list of whole numbers)) -/
section
variable {P : Program} {w : World} {A : Around} {E : Value → Shared → Prop} {s : Shared}
set_option maxHeartbeats 8000000 in
theorem call_set_ints {l : Addr} {its : Array Value} {xs : List Int} {Q : Value → Shared → Prop} (hh : A.handled = none) (hl : s.heap.IsList l its) (hs : its.size = xs.length) (hi : ∀ (i : Nat) v, its[i]? = some v → ∃ k t, xs[i]? = some k ∧ v = .int k t) (hb : xs.length + 1 < scanBound)
    (k : ∀ (h' : Heap) (tk c : Nat), SetR w h' s.heap.objs.size (fun j => decide (j ∈ xs)) c → c ≤ xs.length → (∀ b o, b < s.heap.objs.size → s.heap.get? b = some o → h'.get? b = some o) → Q (.ref s.heap.objs.size) { s with heap := h', toks := tk }) :
    wpAny (model P w) A (call (.type "set") [.ref l]) Q E s := by
  obtain ⟨c, tl, z1⟩ := PySem.F.called_set.mro
  have z2 := PySem.F.called_set.made; have z3 := PySem.F.called_set.sub; have z4 := PySem.F.called_set.notType; have z5 := PySem.F.called_set.canCreate; have z6 := PySem.F.typeCall_set_1 (.ref l)
  refine wpAny_call (codeAny_of_tree ?_); show wpAny _ _ (callAny (.type "set") _) _ _ _
  refine wpAny_pure ⟨Code.quiet_builtin _ (by decide +kernel), codeAny_builtin PySem.F.entry_type_call ?_⟩; rw [Around.under_plain (weight_type_call_type "set" [.ref l] []) rfl]
  repeat (any_goals (first | assumption | wp_step))
  refine codeAny_mono (code_set_led1 (.ref l) (E := E) (Q₁ := fun y s1 => y = .ref s.heap.objs.size ∧ s1 = { s with heap := s.heap.push { cls := .type "set", dict := none, data := .set #[] 0 (.fresh 0 0 (!w.params.followText "set-order")) } }) ⟨rfl, rfl⟩) fun r s1 hr => ?_
  match r, hr with
  | .error e, hr => exact hr
  | .ok (.ret y), hr =>
    obtain ⟨rfl, rfl⟩ := hr
    have g0 : (s.heap.push { cls := .type "set", dict := none, data := .set #[] 0 (.fresh 0 0 (!w.params.followText "set-order")) }).get? s.heap.objs.size = some { cls := .type "set", dict := none, data := .set #[] 0 (.fresh 0 0 (!w.params.followText "set-order")) } := Heap.get?_push_size _ rfl
    have tS : Shared.TypeIs { s with heap := s.heap.push { cls := .type "set", dict := none, data := .set #[] 0 (.fresh 0 0 (!w.params.followText "set-order")) } } (.ref s.heap.objs.size) "set" := ⟨_, g0, rfl⟩
    have z7 := PySem.F.called_set.init.lookup; have z8 := PySem.F.called_set.init.bind (.ref s.heap.objs.size)
    repeat (any_goals (first | assumption | wp_step))
    refine codeAny_mono (codeAny_call_builtin (R := wants (fun r s2 => r = .none ∧ ∃ h' tk c, s2 = { s with heap := h', toks := tk } ∧ SetR w h' s.heap.objs.size (fun j => decide (j ∈ xs)) c ∧ c ≤ xs.length ∧ (∀ b o, b < s.heap.objs.size → s.heap.get? b = some o → h'.get? b = some o)) E) PySem.F.called_set.init.plain PySem.F.entry_set_init (check_set_init_1 tS ?_)) fun r2 s2 hr2 => ?_
    · obtain ⟨⟨oc, od, odata, os⟩, ho, q1, nl, q2⟩ := hl
      simp only at q1 q2
      subst q1; subst q2
      have g1 : (s.heap.push { cls := .type "set", dict := none, data := .set #[] 0 (.fresh 0 0 (!w.params.followText "set-order")) }).get? l = some { cls := .type "list", dict := od, data := .seq its nl, slots := os } := Heap.get?_push_of_some _ ho
      have y1 := PySem.F.sub_list_set; have y2 := PySem.F.sub_list_frozenset
      have y3 : (Value.type "list" == Value.type "dict") = false := by decide
      have l1 : (s.heap.push { cls := .type "set", dict := none, data := .set #[] 0 (.fresh 0 0 (!w.params.followText "set-order")) }).IsList l its := ⟨_, g1, rfl, nl, rfl⟩
      unfold Builtin.«set.__init__» noKeywords Builtin.Frozenset.updateFrom; generalize hPI : pyIter = PI; wp_walk; subst hPI
      refine wpAny_pyIter_list l1 ?_
      refine wpAny_bind (wpAny_runValue ?_)
      have lS : l < s.heap.objs.size := Heap.lt_size ho
      have h3 : A.in1.in1.in1.handled = none := by simp [hh]
      have sz : (s.heap.push { cls := .type "set", dict := none, data := .set #[] 0 (.fresh 0 0 (!w.params.followText "set-order")) }).objs.size = s.heap.objs.size + 1 := Heap.size_push ..
      have ne : l ≠ (s.heap.push { cls := .type "set", dict := none, data := .set #[] 0 (.fresh 0 0 (!w.params.followText "set-order")) }).objs.size := by rw [sz]; exact Nat.ne_of_lt (Nat.lt_succ_of_lt lS)
      have nf : s.heap.objs.size ∉ [(s.heap.push { cls := .type "set", dict := none, data := .set #[] 0 (.fresh 0 0 (!w.params.followText "set-order")) }).objs.size, l] := by
        rw [sz]; simp only [List.mem_cons, List.not_mem_nil, or_false, not_or]; exact ⟨Nat.ne_of_lt (Nat.lt_succ_self _), Nat.ne_of_gt lS⟩
      refine set_update_ints ((Walks.list h3 _ l ne its).toS) s.heap.objs.size nf xs hs hb hi (its.size - 0) 0 _ (by omega) (Nat.zero_le _) ⟨⟨_, Heap.get?_push_size _ rfl, rfl, rfl⟩, (l1.push _)⟩ ?xa ?xb
      case xa =>
        have g2 : ((s.heap.push { cls := .type "set", dict := none, data := .set #[] 0 (.fresh 0 0 (!w.params.followText "set-order")) }).push { cls := .type "list_iterator", data := .fields #[.ref l, .int 0 0] }).get? s.heap.objs.size = some { cls := .type "set", dict := none, data := .set #[] 0 (.fresh 0 0 (!w.params.followText "set-order")) } := Heap.get?_push_of_some _ g0
        exact ⟨0, Nat.le_refl 0, setR_new_at g2⟩
      case xb =>
        intro s' c' m hc' S'
        obtain ⟨h', g', d', tk', os'⟩ := s'
        obtain rfl : g' = s.gens := m.gens
        obtain rfl : d' = s.drawn := m.drawn
        obtain rfl : os' = s.os := m.os
        show wpAny _ _ _ _ _ _
        refine wpAny_pure ?_
        show wpAny _ _ (ret Value.none) _ _ _
        refine wpAny_pure ⟨rfl, h', tk', c', rfl, S', hs ▸ hc', fun b o hb' e => ?_⟩
        exact m.heap b o (by rw [sz]; simp only [List.mem_cons, List.not_mem_nil, or_false, not_or]; exact ⟨Nat.ne_of_lt hb', Nat.ne_of_lt (Nat.lt_succ_of_lt hb')⟩) (Heap.get?_push_of_some _ (Heap.get?_push_of_some _ e))
    · match r2, hr2 with
      | .error e, hr2 => exact hr2
      | .ok (.ret y), hr2 =>
        obtain ⟨rfl, h', tk, c2, rfl, S', hc2, keep⟩ := hr2
        repeat (any_goals (first | assumption | wp_step))
        exact k _ _ _ S' hc2 keep
end
def rSetL (K : Frg) (w : World) : List V → Hp → VK → Prop := fun xs H Q => ∃ (a : Addr) (ns : List Int), xs = [.ref a] ∧ SqL K H a (ns.map V.int) ∧ ns.length < 63 ∧ ∀ p n, n ≤ ns.length → H p = none → Q (.ref p) (upd H p (SetO w p (fun j => decide (j ∈ ns)) n))
section
variable {X : Cx} {ct : Ct}
theorem cr_setL (hc : X.calm = true) : CallR X (.type "set") (rSetL X.K X.w) := by
  intro pins s σ H xs us Q I rv h
  obtain ⟨a, ns, rfl, hq, hl, q⟩ := h
  obtain ⟨u, rfl, ru⟩ := vals1 rv
  cases ru
  obtain ⟨its, rvv, pl, hz⟩ := I.list hq
  have hlen : its.length = ns.length := by have := rvv.length; simpa using this.symm
  have hn : H s.heap.objs.size = none := I.hok.fresh (Nat.le_refl _)
  have hia : IntsAre its ns := intsAre_of rvv
  refine call_set_ints (xs := ns) (I.ok.hd hc) pl.isList (by simpa using hlen) (fun i v e => ?_) (by
    have h4 : 4001 < scanBound := by decide
    omega) fun h' tk c R hc' keep => ?_
  · have e' : its[i]? = some v := by simpa using e
    have hi : i < ns.length := by rw [← hlen]; exact (List.getElem?_eq_some_iff.mp e').1
    obtain ⟨t, ev⟩ := PyProof.Rows.IntsAre.int_at hia i v e'
    refine ⟨ns[i], t, List.getElem?_eq_getElem hi, ?_⟩
    rw [ev, List.getD_eq_getElem?_getD, List.getElem?_eq_getElem hi]; rfl
  · exact ⟨.ref s.heap.objs.size, _, I.laid (o := SetO X.w s.heap.objs.size (fun j => decide (j ∈ ns)) c) (t' := tk) (fun b u e => keep b u (Heap.lt_size e) e) (Nat.le_refl _) (setO_new R), rfl, q _ _ hc' hn⟩
/-- the numbers, ascending, each once -/
def insI (x : Int) : List Int → List Int
  | [] => [x]
  | y :: ys => if x < y then x :: y :: ys else if x = y then y :: ys else y :: insI x ys
def sortI (ns : List Int) : List Int := ns.foldr insI []
theorem ins_mem {x k : Int} : ∀ {ys : List Int}, k ∈ insI x ys ↔ k = x ∨ k ∈ ys
  | [] => by simp [insI]
  | y :: ys => by
    unfold insI
    split
    · simp
    · split
      · rename_i h; subst h; simp
      · rw [List.mem_cons, ins_mem, List.mem_cons]
        constructor
        · rintro (h | h | h)
          · exact .inr (.inl h)
          · exact .inl h
          · exact .inr (.inr h)
        · rintro (h | h | h)
          · exact .inr (.inl h)
          · exact .inl h
          · exact .inr (.inr h)
theorem ins_pw {x : Int} : ∀ {ys : List Int}, ys.Pairwise (· < ·) → (insI x ys).Pairwise (· < ·)
  | [], _ => List.pairwise_singleton _ _
  | y :: ys, h => by
    obtain ⟨h1, h2⟩ := List.pairwise_cons.mp h
    unfold insI
    split
    · rename_i hx
      exact .cons (fun z hz => by
        rcases List.mem_cons.mp hz with e | hz
        · rw [e]; exact hx
        · have := h1 z hz; omega) h
    · split
      · exact h
      · refine .cons (fun z hz => ?_) (ins_pw h2)
        rcases ins_mem.mp hz with e | hz
        · omega
        · exact h1 z hz
theorem sort_mem {k : Int} : ∀ {ns : List Int}, k ∈ sortI ns ↔ k ∈ ns
  | [] => Iff.rfl
  | n :: ns => by
    show k ∈ insI n (sortI ns) ↔ _
    rw [ins_mem, sort_mem, List.mem_cons]
theorem sort_pw : ∀ {ns : List Int}, (sortI ns).Pairwise (· < ·)
  | [] => .nil
  | n :: ns => ins_pw (sort_pw (ns := ns))
theorem sort_uniq {as bs : List Int} (ha : as.Pairwise (· < ·)) (hb : bs.Pairwise (· < ·)) (h : ∀ k, k ∈ as ↔ k ∈ bs) : as = bs := by
  have na : as.Nodup := ha.imp fun h e => by omega
  have nb : bs.Nodup := hb.imp fun h e => by omega
  exact List.Perm.eq_of_pairwise (le := fun a b : Int => a < b) (fun a b _ _ h1 h2 => by omega) ha hb ((List.perm_ext_iff_of_nodup na nb).mpr h)
def fSortSet (fa : FE) : FE := fun env M => bnd (fa env M) fun d M1 => match d with
  | .loc n => match M1[n]? with
    | some (.lst ys) => match intsOf ys with
      | some is => if is.length < 60 then some (.loc M1.length, M1 ++ [.lst ((sortI is).map .int)]) else none
      | none => none
    | _ => none
  | _ => none
theorem dvs_mapI {K : Frg} {ρ : List Addr} {H : Hp} : ∀ ns : List Int, DVs K ρ H (ns.map Dv.int) (ns.map V.int)
  | [] => .nil
  | n :: ns => .cons (.int n) (dvs_mapI ns)
theorem se_sortSet {e : Expr} {fa : FE} {p p2 pos pos2 : Pos} (hc : X.calm = true) (hg : Gl X "sorted") (hm : X.mg "sorted" = none) (hg2 : Gl X "set") (hm2 : X.mg "set" = none) (ha : SE X ct e fa)
    (h1 : starEach [e] X.env = (false, eval e X.env) :: starEach [] X.env := by rfl)
    (h2 : starEach [.Call (.Name "set" p2) [e] [] pos2] X.env = (false, eval (.Call (.Name "set" p2) [e] [] pos2) X.env) :: starEach [] X.env := by rfl) :
    SE X ct (.Call (.Name "sorted" p) [.Call (.Name "set" p2) [e] [] pos2] [] pos) (fSortSet fa) :=
  PE.imp (pe_callB (cr_sortedSet hc) hg hm (by decide +kernel) (pa_cons (pe_callTy (cr_setL hc) hg2 hm2 (by decide +kernel) (pa_cons ha pa_nil h1) (he := h1)) pa_nil h2) (he := h2)) fun σ H Q ⟨ρ, M, env, r, hen, d, M', hf, hq⟩ => by
    obtain ⟨x, M1, q1, hf⟩ := bnd_some hf
    refine ⟨ρ, M, env, r, hen, x, M1, q1, fun ρ1 H1 e1 r1 v dv => ?_⟩
    split at hf
    · split at hf
      · rename_i ys hm
        split at hf
        · rename_i is hi
          split at hf
          · rename_i hl
            cases hf
            have hy := intsOf_eq hi
            subst hy
            obtain ⟨l, vs, rfl, a1, hH, a3⟩ := r1.lst hm dv
            have hv := vs_ints a3
            subst hv
            refine ⟨l, is, rfl, SqL.of hH, by omega, fun pa n hn hpa => ?_⟩
            have x2 := Ext.fresh (K := X.K) (ρ := ρ1) (o' := SetO X.w pa (fun j => decide (j ∈ is)) n) hpa
            refine ⟨pa, _, n, rfl, upd_same, by omega, fun ns' q hP hM hL hq' => ?_⟩
            have e := sort_uniq hP (sort_pw (ns := is)) fun k => by rw [hM, sort_mem]; simp
            subst e
            obtain ⟨r3, e3, h3⟩ := (r1.tup hpa (SetO X.w pa (fun j => decide (j ∈ is)) n)).newL hq' (dvs_mapI (sortI is))
            exact hq _ _ ((e1.trans x2).trans e3) r3 _ (.loc h3)
          · cases hf
        · cases hf
      · cases hf
    · cases hf
end
end Zl

/-! text Z27 -/
namespace Zl
open PySem L2 PySem.Spec PyProof.Rows

/-! ## targets that are attributes -/
def gFldH (K : PySem.W.Frag) (to : TE) (f : Str) : TG := fun v σ H Q => to σ H fun x H1 => ∃ a C dx fs, x = .ref a ∧ H1 a = some (.ins C dx fs) ∧ L2.Cls K C ∧ L2.NoAttr K C f ∧ fs.length < 1000 ∧ Q σ (upd H1 a (.ins C dx (putF f v fs)))
theorem pg_fldH {X : Cx} {o : Expr} {f : Str} {to : TE} {pos : Pos} (ho : PE X o to) : PG X (.Attribute o f pos) (gFldH X.K to f) := by
  refine ⟨fun pins s σ H v u Q I r h => ?_⟩
  rw [show assign (.Attribute o f pos) X.env u = (do
    let ov ← holding [u] (eval o X.env)
    standAt pos.atName
    holding [u, ov] (setAttr ov f u)
    release [u, ov] []) from rfl]
  refine wpAny_bind (wpAny_holding (thn (ho.run pins s σ H _ I h) fun ov s1 ⟨x, H1, I1, r1, a, C, dx, fs, ex, ea, c, n, l, q⟩ => ?_))
  subst ex
  obtain rfl : ov = Value.ref a := r1
  refine wpAny_bind (wpAny_standAt (wpAny_bind (wpAny_holding (setattr_ok I1 ea c n l r fun s3 I3 => ?_))))
  exact wpAny_release ⟨σ, _, I3, q⟩
section
variable {X : Cx} {ct : Ct} {pos : Pos} {e o : Expr} {fo fe : FE} {C : Addr}
def gFld (c : Nat) (fld : Str) (fo : FE) : FG := fun d env M => bnd (fo env M) fun x M1 => match x with
  | .loc n => match M1[n]? with
    | some (.ins c' fs) => if c' = c ∧ fs.length < 1000 then some (env, M1.set n (.ins c (putD fld d fs))) else none
    | _ => none
  | _ => none
theorem sg_fld {ws : List Nat} {c : Nat} {fld : Str} (ho : SE X ct o fo) (hc : ct c = some C) (cl : L2.Cls X.K C) (na : L2.NoAttr X.K C fld) : SG X ct ws (.Attribute o fld pos) (gFld c fld fo) :=
  PG.imp (pg_fldH ho) fun v σ H Q ⟨ρ, M, env, d, r, he, dv, env', M', hf, hq⟩ => by
    obtain ⟨x, M1, h1, hf⟩ := bnd_some hf
    refine ⟨ρ, M, env, r, he, x, M1, h1, fun ρ1 H1 e1 r1 w dw => ?_⟩
    split at hf
    · split at hf
      · rename_i hm
        split at hf
        · rename_i hcc
          cases hf
          obtain ⟨hcc, hl⟩ := hcc
          subst hcc
          obtain ⟨a, C', dx, vfs, rfl, a1, a2, a3, a4⟩ := r1.ins hm dw
          rw [hc] at a2; cases a2
          have xs : Ext X.K ρ1 H1 ρ1 (upd H1 a (.ins C dx (putF fld v vfs))) := Ext.soft (fun _ _ z => z) (fun _ q => by rw [a3] at q; cases q) fun _ _ q => by rw [a3] at q; cases q
          obtain ⟨r3, e3⟩ := r1.put (o := .ins _ (putD fld d _)) (o' := .ins C dx (putF fld v vfs)) a1 a3 ⟨C, dx, _, hc, upd_same, (a4.put (dv.mono e1)).mono xs⟩
          exact ⟨a, C, dx, vfs, rfl, a3, cl, na, by rw [← a4.length]; exact hl, hq ρ1 _ (e1.trans e3) r3 σ ((he.mono e1).mono e3) .refl⟩
        · cases hf
      · cases hf
    · cases hf
end
/-! ## list(dict) -/
def keyDv : Key → Dv
  | .inl i => .int i
  | .inr x => .str x
theorem keyDv_dv {K : Frg} {ρ : List Addr} {H : Hp} (k : Key) : DV K ρ H (keyDv k) (kV k) := by
  cases k with
  | inl i => exact .int i
  | inr x => exact .str x
def keysDv (kvs : List (Key × Dv)) : List Dv := kvs.map fun p => keyDv p.1
theorem keysDv_dvs {K : Frg} {ρ : List Addr} {H : Hp} : ∀ {kvs : List (Key × Dv)} {vs : List (Key × V)}, kvs.map (·.1) = vs.map (·.1) → DVs K ρ H (keysDv kvs) (vs.map fun p => kV p.1)
  | [], [], _ => .nil
  | [], _ :: _, e => by cases e
  | _ :: _, [], e => by cases e
  | p :: kvs, q :: vs, e => by
    simp only [List.map_cons, List.cons.injEq] at e
    show DVs K ρ H (keyDv p.1 :: keysDv kvs) (kV q.1 :: vs.map fun p => kV p.1)
    rw [← e.1]
    exact .cons (keyDv_dv _) (keysDv_dvs e.2)
def lstF : List Dv → Mem → Rz
  | [.loc n], M => match M[n]? with
    | some (.dct kvs) => if kvs.length ≤ 1000 then some (.loc M.length, M ++ [.lst (keysDv kvs)]) else none
    | _ => lstE [.loc n] M
  | ds, M => lstE ds M
section
variable {X : Cx} {ct : Ct}
theorem sc_listF (hc : X.calm = true) : SC X ct (.type "list") lstF := by
  intro pins s σ H xs us Q I rv h
  obtain ⟨ρ, M, ds, r, dv, z, M', hf, hq⟩ := h
  unfold lstF at hf
  split at hf
  · split at hf
    · rename_i kvs hm
      split at hf
      · rename_i hl
        cases hf
        obtain ⟨v, rfl, d1⟩ := dvs_one dv
        obtain ⟨a, vs, rfl, a1, a2, a3, a4⟩ := r.dct hm d1
        refine call_listD hc pins s σ H _ us Q I rv ⟨a, vs, rfl, .inl a2, fun p hp => ?_⟩
        obtain ⟨r2, e2, h2⟩ := r.newL (vs := vs.map fun kv => kV kv.1) hp (keysDv_dvs a3)
        exact hq _ _ e2 r2 _ (.loc h2)
      · cases hf
    · exact sc_listE hc pins s σ H xs us Q I rv ⟨ρ, M, _, r, dv, z, M', hf, hq⟩
  · exact sc_listE hc pins s σ H xs us Q I rv ⟨ρ, M, _, r, dv, z, M', hf, hq⟩
end
/-! ## for over a dict's keys: the dict is locked meanwhile -/
def okU : HO → Bool
  | .tup _ => false
  | .lst _ => false
  | .frz _ _ => false
  | _ => true
section
variable {K : Frg} {ρ : List Addr} {H : Hp} {a : Addr} {od : Obj} {uu : HO}
theorem sqT_open {b : Addr} {vs : List V} (hl : H a = some (.frz od uu)) (hu : okU uu = true) (h : SqT K H b vs) : SqT K (upd H a uu) b vs := by
  rcases h with (h | ⟨o, h⟩) | h
  · have ne : b ≠ a := fun e => by subst e; rw [hl] at h; cases h
    exact .inl (.inl (by rw [upd_ne ne]; exact h))
  · have ne : b ≠ a := fun e => by subst e; rw [hl] at h; cases h; cases hu
    exact .inl (.inr ⟨o, by rw [upd_ne ne]; exact h⟩)
  · exact .inr h
theorem tupD_open {b : Addr} {vs : List V} (hl : H a = some (.frz od uu)) (hu : okU uu = true) (h : TupD K H b vs) : TupD K (upd H a uu) b vs := by
  rcases h with ⟨o, h, z⟩ | h
  · have ne : b ≠ a := fun e => by subst e; rw [hl] at h; cases h; cases hu
    exact .inl ⟨o, by rw [upd_ne ne]; exact h, z⟩
  · exact .inr h
theorem sqF_open {b : Addr} {vs : List V} (hl : H a = some (.frz od uu)) (hu : okU uu = true) (h : SqF K H b vs) : SqF K (upd H a uu) b vs := by
  rcases h with ⟨o, h⟩ | h
  · have ne : b ≠ a := fun e => by subst e; rw [hl] at h; cases h; cases hu
    exact .inl ⟨o, by rw [upd_ne ne]; exact h⟩
  · exact .inr h
mutual
theorem DV.opn (hl : H a = some (.frz od uu)) (hu : okU uu = true) : ∀ {d : Dv} {v : V}, DV K ρ H d v → DV K ρ (upd H a uu) d v
  | _, _, .non => .non
  | _, _, .bl b => .bl b
  | _, _, .int i => .int i
  | _, _, .str x => .str x
  | _, _, .tup h r => .tup (tupD_open hl hu h) (DVs.opn hl hu r)
  | _, _, .pr h r => .pr (sqT_open hl hu h) (DVs.opn hl hu r)
  | _, _, .loc h => .loc h
  | _, _, .rol h r => .rol (sqF_open hl hu h) (DVs.opn hl hu r)
  | _, _, .ty n => .ty n
theorem DVs.opn (hl : H a = some (.frz od uu)) (hu : okU uu = true) : ∀ {ds : List Dv} {vs : List V}, DVs K ρ H ds vs → DVs K ρ (upd H a uu) ds vs
  | _, _, .nil => .nil
  | _, _, .cons h r => .cons (DV.opn hl hu h) (DVs.opn hl hu r)
end
theorem EnOk.opn {env : En} {σ : L2.St} (hl : H a = some (.frz od uu)) (hu : okU uu = true) (h : EnOk K ρ H env σ) : EnOk K ρ (upd H a uu) env σ :=
  ⟨h.1, fun i d q => let ⟨v, h1, h2⟩ := h.2 i d q; ⟨v, h1, h2.opn hl hu⟩⟩
theorem ObOk.opn {ct : Ct} {b : Addr} {o : Ob} (hl : H a = some (.frz od uu)) (hu : okU uu = true) (ne : b ≠ a) (h : ObOk K ct ρ H b o) : ObOk K ct ρ (upd H a uu) b o := by
  have q : upd H a uu b = H b := upd_ne ne
  cases o with
  | lst ds => obtain ⟨vs, h1, h2⟩ := h; exact ⟨vs, q.trans h1, h2.opn hl hu⟩
  | ins c fs => obtain ⟨C, dx, vfs, h0, h1, h2⟩ := h; exact ⟨C, dx, vfs, h0, q.trans h1, h2.1, h2.2.opn hl hu⟩
  | dct kvs => obtain ⟨vs, h1, h2, h3⟩ := h; exact ⟨vs, q.trans h1, h2, h3.opn hl hu⟩
  | dcn kvs => obtain ⟨xs, vs, h1, h2, h3, h4, h5, h6⟩ := h; exact ⟨xs, vs, q.trans h1, h2, h3, h4.opn hl hu, h5.opn hl hu, h6⟩
  | st xs => exact q.trans h
  | sk xs => exact q.trans h
  | lck => obtain ⟨o, u, h1⟩ := h; exact ⟨o, u, q.trans h1⟩
  | lckN kvs => obtain ⟨od', xs, vs, h1, h2, h3, h4, h5, h6⟩ := h; exact ⟨od', xs, vs, q.trans h1, h2, h3, h4.opn hl hu, h5.opn hl hu, h6⟩
/-- the dict is as it was again -/
theorem Rl.opn {ct : Ct} {M : Mem} {n : Nat} {kv : List (Key × V)} {kvs : List (Key × Dv)} (r : Rl K ct ρ M H) (hn : ρ[n]? = some a) (hl : H a = some (.frz od (.dK kv))) (hk : kvs.map (·.1) = kv.map (·.1)) (hv : DVs K ρ H (kvs.map (·.2)) (kv.map (·.2))) :
    Rl K ct ρ (M.set n (.dct kvs)) (upd H a (.dK kv)) := by
  refine ⟨by simp [r.len], r.nd, fun m x hx => ?_⟩
  by_cases hmn : n = m
  · subst hmn
    rw [List.getElem?_set, if_pos rfl] at hx
    split at hx
    · cases hx
      exact ⟨a, hn, kv, upd_same, hk, hv.opn hl rfl⟩
    · cases hx
  · rw [List.getElem?_set_ne hmn] at hx
    obtain ⟨b, h1, h2⟩ := r.ok m x hx
    refine ⟨b, h1, h2.opn hl rfl fun e => ?_⟩
    subst e
    obtain ⟨i1, e1⟩ := List.getElem?_eq_some_iff.mp h1
    obtain ⟨i2, e2⟩ := List.getElem?_eq_some_iff.mp hn
    exact hmn ((List.getElem_inj r.nd).mp (e2.trans e1.symm))
/-- from ahead of the lock to behind it -/
theorem ext_opn {ρ2 : List Addr} {H2 : Hp} (hd : H a = some uu) (hu : okU uu = true) (x : Ext K ρ (upd H a (.frz od uu)) ρ2 H2) (hl : H2 a = some (.frz od uu)) : Ext K ρ H ρ2 (upd H2 a uu) := by
  have soft : (∀ vs, H a ≠ some (.tup vs)) ∧ ∀ o u, H a ≠ some (.frz o u) := soft_of hd (by cases uu <;> first | rfl | cases hu)
  refine ⟨x.pre, fun b vs h => sqT_open hl hu (x.tup b vs (sqT_soft h soft.1 soft.2)), fun b o u h => ?_⟩
  have ne : b ≠ a := fun e => by subst e; rw [hd] at h; cases h; cases hu
  rw [upd_ne ne]
  exact x.frz b o u (by rw [upd_ne ne]; exact h)
end
def stpK (kvs : List (Key × Dv)) : Stp := fun i _ => some (kvs[i]?.map fun p => keyDv p.1)
def lckAt (n : Nat) (M : Mem) : Bool := match M[n]? with
  | some .lck => true
  | _ => false
def fForK (k : Nat) (g : FG) (f : FS) : FS := fun env M => match env[k]? with
  | some (some (.loc n)) => match M[n]? with
    | some (.dct kvs) => match loopF (stpK kvs) g f kvs.length 0 env (M.set n .lck) with
      | some (fl, M') => some (fl, M'.set n (.dct kvs))
      | none => none
    | _ => none
  | _ => none
theorem feeds_keys {ct : Ct} {K : Frg} {ρ0 : List Addr} {H0 : Hp} {a : Addr} {od : Obj} {kvs : List (Key × Dv)} {kv : List (Key × V)} (hl : H0 a = some (.frz od (.dK kv))) (hk : kvs.map (·.1) = kv.map (·.1)) : Feeds K ct ρ0 H0 (Itk a od kv) (stpK kvs) := by
  have len : kvs.length = kv.length := by have := congrArg List.length hk; simpa using this
  intro i ρ M H x r
  show (match some (kvs[i]?.map fun p => keyDv p.1) with | some (some d) => _ | some none => _ | none => _)
  cases q : kvs[i]? with
  | none => exact ⟨x.frz _ _ _ hl, by rw [← len]; exact List.getElem?_eq_none_iff.mp q⟩
  | some p =>
    have hi := (List.getElem?_eq_some_iff.mp q).1
    refine ⟨⟨x.frz _ _ _ hl, by omega⟩, fun y H' hy => ?_⟩
    obtain ⟨rfl, k, v, e, rfl⟩ := hy
    have e2 := congrArg (fun l => l[i]?) hk
    simp only [List.getElem?_map, q, e, Option.map_some, Option.some.injEq] at e2
    subst e2
    exact ⟨.refl, r, keyDv_dv p.1⟩
section
variable {X : Cx} {ct : Ct} {pos p : Pos} {tg : Expr} {g : FG} {f : FS} {body : List Stmt} {ws : List Nat} {x : Str}
theorem ss_forK {k : Nat} (hp : PassesOwn (model X.prog X.w) X.A X.env X.xe) (hc : X.calm = true) (hv : SE X ct (.Name x p) (fV k)) (hg : SG X ct ws tg g) (hb : SSs X ct body f)
    (hs : ∀ y, foldedSetIterable (.Name x p) X.env y = pure y := by intro _; rfl) : SS X ct (.For tg (.Name x p) body [] pos) (fForK k g f) := by
  refine PS.imp (ps_lock (ps_for hp hc (pi_keys hv) hg hb hs)) fun D σ H ⟨ρ, M, env, r, he, fl, M', hf, hq⟩ => ?_
  unfold fForK at hf
  split at hf
  · rename_i n hn
    split at hf
    · rename_i kvs hm
      split at hf
      · rename_i fl' N hlp
        obtain ⟨hf1, hf2⟩ := Prod.mk.inj (Option.some.inj hf)
        subst hf1 hf2
        obtain ⟨w, hw1, dw⟩ := he.2 k _ hn
        obtain ⟨a, kv, rfl, a1, a2, a3, a4⟩ := r.dct hm dw
        refine ⟨a, .dK kv, a2, trivial, fun od => ?_⟩
        obtain ⟨r1, x1⟩ := r.put (o := .lck) (o' := .frz od (.dK kv)) a1 a2 ⟨od, _, upd_same⟩
        refine ⟨ρ, M.set n .lck, env, r1, he.mono x1, .loc n, M.set n .lck, by unfold fV; rw [hn], fun ρ0 H0 e0 r0 v dv => ?_⟩
        have lk0 : H0 a = some (.frz od (.dK kv)) := e0.frz _ _ _ upd_same
        cases dv with
        | loc hv0 =>
        have := e0.pre _ _ a1
        rw [this] at hv0; cases hv0
        refine ⟨a, od, rfl, .inl ⟨kv, lk0, ?_⟩⟩
        have hJ := feeds_keys (ct := ct) (K := X.K) (ρ0 := ρ0) lk0 a3
        have fin : ∀ ρ2 H2 (fl2 : Fl), Ext X.K ρ0 H0 ρ2 H2 → Rl X.K ct ρ2 N H2 → (∀ ρ' H', Ext X.K ρ H ρ' H' → Rl X.K ct ρ' (N.set n (.dct kvs)) H' → endF X.K D fl2 ρ' H') →
            endF X.K ⟨fun σ' H' => H' a = some (.frz od (.dK kv)) ∧ D.nx σ' (upd H' a (.dK kv)), fun v H' => H' a = some (.frz od (.dK kv)) ∧ D.rt v (upd H' a (.dK kv)), fun σ' H' => H' a = some (.frz od (.dK kv)) ∧ D.bk σ' (upd H' a (.dK kv)), fun σ' H' => H' a = some (.frz od (.dK kv)) ∧ D.ct σ' (upd H' a (.dK kv))⟩ fl2 ρ2 H2 := by
          intro ρ2 H2 fl2 x2 r2 hE
          have xx := e0.trans x2
          have lk : H2 a = some (.frz od (.dK kv)) := xx.frz _ _ _ upd_same
          have hv2 : DVs X.K ρ2 H2 (kvs.map (·.2)) (kv.map (·.2)) := (a4.mono x1).mono xx
          have e := hE ρ2 _ (ext_opn a2 rfl xx lk) (r2.opn (xx.pre _ _ a1) lk a3 hv2)
          cases fl2 with
          | nx env2 => exact fun σ2 h2 => ⟨lk, e σ2 (h2.opn lk rfl)⟩
          | rt d => exact fun v h2 => ⟨lk, e v (h2.opn lk rfl)⟩
          | bk env2 => exact fun σ2 h2 => ⟨lk, e σ2 (h2.opn lk rfl)⟩
          | ct env2 => exact fun σ2 h2 => ⟨lk, e σ2 (h2.opn lk rfl)⟩
        have hq' : Aft X.K ct ρ0 H0 N fun ρ' H' => endF X.K ⟨fun σ' H' => H' a = some (.frz od (.dK kv)) ∧ D.nx σ' (upd H' a (.dK kv)), fun v H' => H' a = some (.frz od (.dK kv)) ∧ D.rt v (upd H' a (.dK kv)), fun σ' H' => H' a = some (.frz od (.dK kv)) ∧ D.bk σ' (upd H' a (.dK kv)), fun σ' H' => H' a = some (.frz od (.dK kv)) ∧ D.ct σ' (upd H' a (.dK kv))⟩ fl' ρ' H' :=
          fun ρ2 H2 x2 r2 => fin ρ2 H2 fl' x2 r2 hq
        generalize (Ends.mk (fun σ' H' => H' a = some (.frz od (.dK kv)) ∧ D.nx σ' (upd H' a (.dK kv))) (fun v H' => H' a = some (.frz od (.dK kv)) ∧ D.rt v (upd H' a (.dK kv))) (fun σ' H' => H' a = some (.frz od (.dK kv)) ∧ D.bk σ' (upd H' a (.dK kv))) (fun σ' H' => H' a = some (.frz od (.dK kv)) ∧ D.ct σ' (upd H' a (.dK kv)))) = D' at hq' ⊢
        refine ⟨fun i m σ H => ∃ ρ M env, Ext X.K ρ0 H0 ρ H ∧ Rl X.K ct ρ M H ∧ EnOk X.K ρ H env σ ∧ ∃ fl M', loopF (stpK kvs) g f m i env M = some (fl, M') ∧ Aft X.K ct ρ H M' fun ρ' H' => endF X.K D' fl ρ' H',
          ⟨kvs.length, ρ0, M.set n .lck, env, .refl, r0, (he.mono x1).mono e0, fl', N, hlp, hq'⟩, ?_⟩
        clear hlp hq' fin hq
        rintro i m σ H ⟨ρ, M, env, x0, r, he, fl, M', hf, hq⟩
        have hj := hJ i ρ M H x0 r
        cases q : stpK kvs i M with
        | none =>
          cases m with
          | zero => (simp only [loopF, q] at hf; try cases hf)
          | succ m => (simp only [loopF, q] at hf; try cases hf)
        | some o =>
          rw [q] at hj
          cases o with
          | none =>
            have e : some (Fl.nx env, M) = some (fl, M') := by
              cases m with
              | zero => simpa only [loopF, q] using hf
              | succ m => simpa only [loopF, q] using hf
            cases e
            exact .inl ⟨hj, hq ρ H .refl r σ he⟩
          | some d =>
            cases m with
            | zero => (simp only [loopF, q] at hf; try cases hf)
            | succ m =>
              simp only [loopF, q] at hf
              obtain ⟨e1, N1, g1, hf⟩ := bnd_some hf
              obtain ⟨f1, N2, g2, hf⟩ := bnd_some hf
              refine .inr ⟨hj.1, fun σ' H' => ∃ ρ M env, Ext X.K ρ0 H0 ρ H' ∧ Rl X.K ct ρ M H' ∧ EnOk X.K ρ H' env σ' ∧ ∃ fl M', loopF (stpK kvs) g f m (i + 1) env M = some (fl, M') ∧ Aft X.K ct ρ H' M' fun ρ' H' => endF X.K D' fl ρ' H',
                fun σ' H' n => ⟨m, Nat.lt_succ_self m, n⟩, fun x H' hy => ?_⟩
              obtain ⟨y1, y2, y3⟩ := hj.2 x H' hy
              refine ⟨ρ, M, env, d, y2, he.mono y1, y3, e1, N1, g1, fun ρ1 H1 x1 r1 σ1 en1 _ => ⟨ρ1, N1, e1, r1, en1, f1, N2, g2, fun ρ2 H2 x2 r2 => ?_⟩⟩
              have xx := (y1.trans x1).trans x2
              cases f1 with
              | nx e3 => exact fun σ2 en2 => ⟨ρ2, N2, e3, x0.trans xx, r2, en2, fl, M', hf, hq.later xx⟩
              | ct e3 => exact fun σ2 en2 => ⟨ρ2, N2, e3, x0.trans xx, r2, en2, fl, M', hf, hq.later xx⟩
              | bk e3 => cases hf; exact fun σ2 en2 => hq ρ2 H2 xx r2 σ2 en2
              | rt d => cases hf; exact hq ρ2 H2 xx r2
      · cases hf
    · cases hf
  · cases hf
end
end Zl

/-! text Z28 -/
namespace Zl
open PySem L2 PySem.Spec PyProof.Rows
/-- *e, a tuple or a list, in a display or in a list of arguments -/
def fStarE (f : FE) (g : FA) : FA := fun env M => bnd (f env M) fun d M1 => match d with
  | .tup xs => bnd (g env M1) fun ds M2 => some (xs ++ ds, M2)
  | .loc n => match M1[n]? with
    | some (.lst xs) => bnd (g env M1) fun ds M2 => some (xs ++ ds, M2)
    | _ => none
  | _ => none
theorem sa_starE {X : Cx} {ct : Ct} {e : Expr} {es : List Expr} {p : Pos} {fa : FE} {fr : FA} (h : SE X ct e fa) (k : SA X ct es fr) (hs : starEach (.Starred e p :: es) X.env = (true, eval e X.env) :: starEach es X.env := by rfl) : SA X ct (.Starred e p :: es) (fStarE fa fr) :=
  PA.imp (StX.pa_star h k hs) fun σ H Q ⟨ρ, M, env, r, he, d, M', hf, hq⟩ => by
    obtain ⟨x, M1, h1, hf⟩ := bnd_some hf
    split at hf
    · rename_i zs
      obtain ⟨ys, M2, h2, hf⟩ := bnd_some hf
      cases hf
      refine ⟨ρ, M, env, r, he, _, M1, h1, fun ρ1 H1 e1 r1 v dv => ?_⟩
      cases dv with
      | tup td ds =>
        exact ⟨_, _, rfl, .inl td.sq, ρ1, M1, env, r1, he.mono e1, ys, _, h2, fun ρ2 H2 e2 r2 vs dvs => hq ρ2 H2 (e1.trans e2) r2 _ ((ds.mono e2).append dvs)⟩
    · split at hf
      · rename_i hm
        obtain ⟨ys, M2, h2, hf⟩ := bnd_some hf
        cases hf
        refine ⟨ρ, M, env, r, he, _, M1, h1, fun ρ1 H1 e1 r1 v dv => ?_⟩
        obtain ⟨a, vs, rfl, a1, a2, a3⟩ := r1.lst hm dv
        exact ⟨_, _, rfl, .inr (SqL.of a2), ρ1, M1, env, r1, he.mono e1, ys, _, h2, fun ρ2 H2 e2 r2 ws dws => hq ρ2 H2 (e1.trans e2) r2 _ ((a3.mono e2).append dws)⟩
      · cases hf
    · cases hf
end Zl

/-! text Z29 -/
namespace Zl
open PySem L2 PySem.Spec PyProof.Rows

/-! ## the keys of a locked dict whose keys are nested tuples -/
theorem frzN {X : Cx} {pins : List (Addr × Obj)} {σ : L2.St} {H : Hp} {s : Shared} {d : Addr} {o : Obj} {P : Program} {w : World} {xs : List (NestedKey × Addr × Value)}
    (I : L2.Inv X pins σ H s) (h : H d = some (.frz o (NDic P w d xs))) :
    (d == sysModules) = false ∧ s.heap.get? d = some o ∧ o.ExactDict ∧ ∃ (es : Array DictEntry) (ep : Nat), o.data = .dict es ep ∧ es.size = xs.length ∧
      ∀ (i : Nat) p, xs[i]? = some p → ∃ en : DictEntry, es[i]? = some en ∧ en.key = .ref p.2.1 := by
  obtain ⟨hd, z⟩ := I.hok d _ h
  obtain ⟨o', es, ep, g1, g2, g3, g4, g5, g6, g7⟩ := z.1
  rw [hd] at g1
  cases g1
  refine ⟨g7, hd, g2, es, ep, g3, size_of_entries g4, fun i p e => ?_⟩
  have q := entry_at g4 i
  rw [e] at q
  exact ⟨_, q, rfl⟩
def Itkn (P : Program) (w : World) (d : Addr) (o : Obj) (xs : List (NestedKey × Addr × Value)) : It :=
  ⟨fun i H => H d = some (.frz o (NDic P w d xs)) ∧ i < xs.length, fun i H x H' => H' = H ∧ ∃ p, xs[i]? = some p ∧ x = .ref p.2.1, fun i H => H d = some (.frz o (NDic P w d xs)) ∧ xs.length ≤ i⟩
theorem turn_keysN {P : Program} {w : World} {K : PySem.W.Frag} {tg : Expr} {P' : Program} {w' : World} {d : Addr} {o : Obj} {es : Array DictEntry} {ep : Nat} {xs : List (NestedKey × Addr × Value)} (it : Addr) (hod : o.data = .dict es ep) :
    Turn P w K tg (Itkn P' w' d o xs) [it] it (fun i h => h.IsKeyIter it d i xs.length ep) where
  mem := by simp
  obj := fun i h st b hb => by
    have e : b = it := by simpa using hb
    subst e
    obtain ⟨oi, e, c, dd⟩ := st
    exact ⟨oi, e, fun v z => by rw [dd] at z; cases z⟩
  keep := fun i h h' st k => st.at fun oi e => k it (by simp) oi e
  item := by
    intro X hP hw hK hc i pins s σ H E I hf st hg
    subst hP hw hK
    obtain ⟨hd, hi⟩ := hg
    have ff := hf it (by simp)
    obtain ⟨hs, hgd, hx, es', ep', hdt, hsz, ent⟩ := frzN I hd
    obtain ⟨rfl, rfl⟩ := dict_ep hod hdt
    obtain ⟨en, hen, hkey⟩ := ent i _ (List.getElem?_eq_getElem hi)
    refine next_key_item st hgd hdt hsz hen fun h' st' sb => ?_
    have I1 : Inv X pins σ H { s with heap := h' } := I.turned (t' := s.toks) (fun b ob hb e => (sb.2 b hb).trans e) ff.1 ff.2.1 ff.2.2.2.1 ff.2.2.2.2.1 ff.2.2.2.2.2
    obtain ⟨oi, e, c, dd⟩ := id st'
    exact ⟨_, rfl, go_of (s := { s with heap := h' }) e c dd (by decide) ⟨.ref xs[i].2.1, H, I1, hkey, ⟨rfl, _, List.getElem?_eq_getElem hi, rfl⟩, st', fun b hb => (hf b hb).1⟩⟩
  done := by
    intro X hP hw hK hc i pins s σ H E I hf st hg
    subst hP hw hK
    obtain ⟨hd, hi⟩ := hg
    have ff := hf it (by simp)
    obtain ⟨hs, hgd, hx, es', ep', hdt, hsz, ent⟩ := frzN I hd
    obtain ⟨rfl, rfl⟩ := dict_ep hod hdt
    exact next_key_end (I.ok.hd hc) st hgd hdt hsz hi fun h' eb => ⟨rfl, I.turned (t' := s.toks) (fun b ob hb e => eb b ob hb e) ff.1 ff.2.1 ff.2.2.2.1 ff.2.2.2.2.1 ff.2.2.2.2.2⟩
  self := fun A i s Q E st h => wpAny_pyIter_keyiter st h
def iKeysN (P : Program) (w : World) (td : TE) : TI := fun σ H R => td σ H fun x H1 => ∃ d o xs, x = .ref d ∧ H1 d = some (.frz o (NDic P w d xs)) ∧ R (Itkn P w d o xs) H1
theorem pi_keysN {X : Cx} {tg e : Expr} {td : TE} {P : Program} {w : World} (he : PE X e td) : PI X tg e (iKeysN P w td) := by
  refine ⟨fun pins s σ H R I h => thn (he.run pins s σ H _ I h) fun u s1 ⟨x, H1, I1, rx, d, o, xs, ex, hd, q⟩ => ?_⟩
  subst ex
  obtain rfl : u = Value.ref d := rx
  obtain ⟨hs, hgd, hx, es, ep, hdt, hsz, ent⟩ := frzN I1 hd
  refine iter_keys hs hgd hx hdt (pi_one (tk := s1.toks) I1 _ (turn_keysN _ hdt) ⟨_, Heap.get?_push_size _ rfl, rfl, ?_⟩ q)
  rw [hsz] <;> rfl
def stpN (kvs : List (NestedKey × Dv × Dv)) : Stp := fun i _ => some (kvs[i]?.map fun p => p.2.1)
def fKeysN (f : FE) : FI := fun env M => bnd (f env M) fun d M1 => match d with
  | .loc n => match M1[n]? with
    | some (.lckN kvs) => some (⟨kvs.length, stpN kvs⟩, M1)
    | _ => none
  | _ => none
theorem feeds_keysN {ct : Ct} {K : Frg} {ρ0 : List Addr} {H0 : Hp} {a : Addr} {od : Obj} {P : Program} {w : World} {kvs : List (NestedKey × Dv × Dv)} {xs : List (NestedKey × Addr × Value)} (hl : H0 a = some (.frz od (NDic P w a xs)))
    (hv : DVs K ρ0 H0 (kvs.map (·.2.1)) (xs.map fun x => V.ref x.2.1)) : Feeds K ct ρ0 H0 (Itkn P w a od xs) (stpN kvs) := by
  have len : kvs.length = xs.length := by have := hv.length; simpa using this
  intro i ρ M H x r
  show (match some (kvs[i]?.map fun p => p.2.1) with | some (some d) => _ | some none => _ | none => _)
  cases q : kvs[i]? with
  | none => exact ⟨x.frz _ _ _ hl, by rw [← len]; exact List.getElem?_eq_none_iff.mp q⟩
  | some p =>
    have hi := (List.getElem?_eq_some_iff.mp q).1
    refine ⟨⟨x.frz _ _ _ hl, by omega⟩, fun y H' hy => ?_⟩
    obtain ⟨rfl, p', e, rfl⟩ := hy
    obtain ⟨v, h1, h2⟩ := hv.get (i := i) (d := p.2.1) (by rw [List.getElem?_map, q]; rfl)
    rw [List.getElem?_map, e] at h1
    cases h1
    exact ⟨.refl, r, h2.mono x⟩
section
variable {X : Cx} {ct : Ct} {tg e : Expr} {fe : FE}
theorem si_keysN (h : SE X ct e fe) : SI X ct tg e (fKeysN fe) := by
  refine PI.imp (pi_keysN (P := ct.prg) (w := ct.wd) h) fun σ H R ⟨ρ, M, env, r, he, src, M', hf, hq⟩ => ?_
  obtain ⟨d, M1, h1, hf⟩ := bnd_some hf
  refine ⟨ρ, M, env, r, he, d, M1, h1, fun ρ1 H1 e1 r1 v dv => ?_⟩
  split at hf
  · split at hf
    · rename_i kvs hm
      cases hf
      obtain ⟨a, h1, od, xs, vs, a1, a2, a3, a4, a5, a6⟩ := r1.ok _ _ hm
      cases dv with
      | loc hv =>
        rw [hv] at h1; cases h1
        exact ⟨a, od, xs, rfl, a1, hq ρ1 H1 e1 r1 _ (feeds_keysN a1 a4)⟩
    · cases hf
  · cases hf
end
/-! ## what runs while the dict of a name is locked -/
def lockE (k : Nat) (f : FE) : FE := fun env M => match env[k]? with
  | some (some (.loc n)) => match M[n]? with
    | some (.dcn kvs) => match f env (M.set n (.lckN kvs)) with
      | some (d, M') => some (d, M'.set n (.dcn kvs))
      | none => none
    | _ => none
  | _ => none
def lockS (k : Nat) (f : FS) : FS := fun env M => match env[k]? with
  | some (some (.loc n)) => match M[n]? with
    | some (.dcn kvs) => match f env (M.set n (.lckN kvs)) with
      | some (d, M') => some (d, M'.set n (.dcn kvs))
      | none => none
    | _ => none
  | _ => none
/-- the dict is as it was again -/
theorem Rl.opnN {K : Frg} {ρ : List Addr} {H : Hp} {a : Addr} {od : Obj} {ct : Ct} {M : Mem} {n : Nat} {kvs : List (NestedKey × Dv × Dv)} {xs : List (NestedKey × Addr × Value)} {vs : List V} (r : Rl K ct ρ M H) (hn : ρ[n]? = some a) (hl : H a = some (.frz od (NDic ct.prg ct.wd a xs)))
    (h1 : kvs.map (·.1) = xs.map (·.1)) (h2 : ∀ p ∈ kvs, keyN p.2.1 = some p.1) (h3 : DVs K ρ H (kvs.map (·.2.1)) (xs.map fun x => V.ref x.2.1)) (h4 : DVs K ρ H (kvs.map (·.2.2)) vs) (h5 : Vals vs (xs.map (·.2.2))) :
    Rl K ct ρ (M.set n (.dcn kvs)) (upd H a (NDic ct.prg ct.wd a xs)) := by
  refine ⟨by simp [r.len], r.nd, fun m x hx => ?_⟩
  by_cases hmn : n = m
  · subst hmn
    rw [List.getElem?_set, if_pos rfl] at hx
    split at hx
    · cases hx
      exact ⟨a, hn, xs, vs, upd_same, h1, h2, h3.opn hl rfl, h4.opn hl rfl, h5⟩
    · cases hx
  · rw [List.getElem?_set_ne hmn] at hx
    obtain ⟨b, q1, q2⟩ := r.ok m x hx
    refine ⟨b, q1, q2.opn hl rfl fun e => ?_⟩
    subst e
    obtain ⟨i1, e1⟩ := List.getElem?_eq_some_iff.mp q1
    obtain ⟨i2, e2⟩ := List.getElem?_eq_some_iff.mp hn
    exact hmn ((List.getElem_inj r.nd).mp (e2.trans e1.symm))
section
variable {X : Cx} {ct : Ct} {e : Expr} {fe : FE} {st : Stmt} {f : FS}
theorem se_lock {k : Nat} (h : SE X ct e fe) : SE X ct e (lockE k fe) := by
  refine PE.imp (pe_lock h) fun σ H Q ⟨ρ, M, env, r, he, d, M', hf, hq⟩ => ?_
  unfold lockE at hf
  split at hf
  · rename_i n hn
    split at hf
    · rename_i kvs hm
      split at hf
      · rename_i d' N hlp
        obtain ⟨hf1, hf2⟩ := Prod.mk.inj (Option.some.inj hf)
        subst hf1 hf2
        obtain ⟨w, hw1, dw⟩ := he.2 k _ hn
        obtain ⟨a, xs, vs, rfl, a1, a2, a3, a4, a5, a6, a7⟩ := r.dcn hm dw
        refine ⟨a, _, a2, trivial, fun od => ?_⟩
        have x0 : Ext X.K ρ H ρ (upd H a (.frz od (NDic ct.prg ct.wd a xs))) := Ext.soft (fun _ _ h => h) (soft_of a2 rfl).1 (soft_of a2 rfl).2
        obtain ⟨r1, x1⟩ := r.put (o := .lckN kvs) (o' := .frz od (NDic ct.prg ct.wd a xs)) a1 a2 ⟨od, xs, vs, upd_same, a3, a4, a5.mono x0, a6.mono x0, a7⟩
        refine ⟨ρ, M.set n (.lckN kvs), env, r1, he.mono x1, d', N, hlp, fun ρ2 H2 x2 r2 v dv => ?_⟩
        have lk : H2 a = some (.frz od (NDic ct.prg ct.wd a xs)) := x2.frz _ _ _ upd_same
        exact ⟨lk, hq ρ2 _ (ext_opn a2 rfl x2 lk) (r2.opnN (x2.pre _ _ a1) lk a3 a4 ((a5.mono x1).mono x2) ((a6.mono x1).mono x2) a7) v (dv.opn lk rfl)⟩
      · cases hf
    · cases hf
  · cases hf
theorem ss_lock {k : Nat} (h : SS X ct st f) : SS X ct st (lockS k f) := by
  refine PS.imp (ps_lock h) fun D σ H ⟨ρ, M, env, r, he, fl, M', hf, hq⟩ => ?_
  unfold lockS at hf
  split at hf
  · rename_i n hn
    split at hf
    · rename_i kvs hm
      split at hf
      · rename_i fl' N hlp
        obtain ⟨hf1, hf2⟩ := Prod.mk.inj (Option.some.inj hf)
        subst hf1 hf2
        obtain ⟨w, hw1, dw⟩ := he.2 k _ hn
        obtain ⟨a, xs, vs, rfl, a1, a2, a3, a4, a5, a6, a7⟩ := r.dcn hm dw
        refine ⟨a, _, a2, trivial, fun od => ?_⟩
        have x0 : Ext X.K ρ H ρ (upd H a (.frz od (NDic ct.prg ct.wd a xs))) := Ext.soft (fun _ _ h => h) (soft_of a2 rfl).1 (soft_of a2 rfl).2
        obtain ⟨r1, x1⟩ := r.put (o := .lckN kvs) (o' := .frz od (NDic ct.prg ct.wd a xs)) a1 a2 ⟨od, xs, vs, upd_same, a3, a4, a5.mono x0, a6.mono x0, a7⟩
        refine ⟨ρ, M.set n (.lckN kvs), env, r1, he.mono x1, fl', N, hlp, fun ρ2 H2 x2 r2 => ?_⟩
        have lk : H2 a = some (.frz od (NDic ct.prg ct.wd a xs)) := x2.frz _ _ _ upd_same
        have q := hq ρ2 _ (ext_opn a2 rfl x2 lk) (r2.opnN (x2.pre _ _ a1) lk a3 a4 ((a5.mono x1).mono x2) ((a6.mono x1).mono x2) a7)
        cases fl' with
        | nx env2 => exact fun σ2 h2 => ⟨lk, q σ2 (h2.opn lk rfl)⟩
        | rt d => exact fun v h2 => ⟨lk, q v (h2.opn lk rfl)⟩
        | bk env2 => exact fun σ2 h2 => ⟨lk, q σ2 (h2.opn lk rfl)⟩
        | ct env2 => exact fun σ2 h2 => ⟨lk, q σ2 (h2.opn lk rfl)⟩
      · cases hf
    · cases hf
  · cases hf
end
end Zl

/-! text Z30 -/
namespace Zl
open PySem L2 PySem.Spec PyProof.Rows
/-! ## zip of two lists whose pairs are kept: for p in zip(a, b) -/
section
variable {prog : Program} {w : World} {A : Around} {E : Value → Shared → Prop} {s : Shared}
abbrev ZP (h : Heap) (z TI TO : Addr) (m n : Value) : Prop := h.get? z = some { cls := .type "zip", dict := none, data := .fields #[m, n, .bool false, .ref TI, .ref TO], slots := #[] }
def Mk (m : Value) : Prop := m = .none ∨ ∃ t : Nat, m = rawInt t
theorem wa_alive {a : Addr} {Q : Option Obj → Shared → Prop} (h : Q (s.heap.get? a) s) : wpAny (model prog w) A (loadIfAlive a) Q E s := fun _ _ _ => h
theorem wa_isFree {z TI TO : Addr} {m n : Value} {Q : Bool → Shared → Prop} (hz : ZP s.heap z TI TO m n) (hm : Mk m) (h1 : Q true s)
    (h2 : ∀ h', ZP h' z TI TO m (.bool true) → Heap.SameBut z s.heap h' → Q false { s with heap := h' }) : wpAny (model prog w) A (Builtin.SmallTypes.ownedTupleIsFree (.ref z)) Q E s := by
  unfold Builtin.SmallTypes.ownedTupleIsFree
  refine wpAny_bind (wpAny_field hz rfl (x := m) rfl ?_)
  rcases hm with rfl | ⟨t, rfl⟩
  · exact wpAny_pure h1
  · refine wpAny_bind (wa_alive ?_)
    cases s.heap.get? (Int.toNat (t : Int)) with
    | none => exact wpAny_pure h1
    | some o =>
      refine wpAny_bind (wpAny_field hz rfl (x := n) rfl ?_)
      by_cases e : n = .bool true
      · subst e
        exact wpAny_pure (h2 s.heap hz ⟨rfl, fun _ _ => rfl⟩)
      · have e2 : (n != Value.bool true) = true := by simpa using e
        simp only [e2, if_true]
        refine wpAny_bind (wpAny_setField_rec hz (by simp) fun h' hz' sb => wpAny_pure (h2 h' hz' sb))
theorem wz_item {z TI TO i j l r : Addr} {k : Nat} {xs ys : Array Value} {x y a b m n : Value} {Q : Value → Shared → Prop} (D : ZipApart z TI TO i j l r)
    (hz : ZP s.heap z TI TO m n) (hm : Mk m) (hI : IsPair s.heap TI (.ref i) (.ref j)) (hO : IsPair s.heap TO a b)
    (h1 : s.heap.IsListIter i l k) (h2 : s.heap.IsListIter j r k) (hl : s.heap.IsList l xs) (hr : s.heap.IsList r ys) (hx : xs[k]? = some x) (hy : ys[k]? = some y)
    (hQ : ∀ h' m' n', ZP h' z TI TO m' n' → Mk m' → (∃ a b, IsPair h' TO a b) → h'.IsListIter i l (k + 1) → h'.IsListIter j r (k + 1) → IsPair h' s.heap.objs.size x y → h'.objs.size = s.heap.objs.size + 1 →
      (∀ c o, c ≠ z → c ≠ TO → c ≠ i → c ≠ j → s.heap.get? c = some o → h'.get? c = some o) → Q (.ref s.heap.objs.size) { s with heap := h' }) :
    wpAny (model prog w) A (Builtin.«zip.__next__» ⟨[.ref z], []⟩) (fun f s' => ∃ v, f = .done (.ret v) ∧ Q v s') E s := by
  show wpAny _ _ (field (.ref z) 2 >>= _) _ _ _
  refine wpAny_bind (wpAny_field hz rfl (x := .bool false) rfl ?_)
  show wpAny _ _ (field (.ref z) 3 >>= _) _ _ _
  refine wpAny_bind (wpAny_field hz rfl (x := .ref TI) rfl ?_)
  refine wpAny_bind (wpAny_seqItems hI rfl ?_)
  show wpAny _ _ (Builtin.SmallTypes.ownedTupleIsFree (.ref z) >>= _) _ _ _
  refine wpAny_bind (wa_isFree hz hm ?_ fun g0 z0 s0 => ?_)
  · simp only [if_true]
    refine wpAny_bind (wpAny_rule ?_)
    refine wpAny_bind (wpAny_field hz rfl (x := .ref TO) rfl ?_)
    refine wpAny_bind (wpAny_setField_rec hz (by simp) fun g1 z1 s1 => ?_)
    replace z1 : ZP g1 z TI TO .ellipsis n := z1
    refine wpAny_bind ?_
    simp only [List.zipIdx_cons, List.zipIdx_nil, List.forIn_cons, List.forIn_nil]
    refine wpAny_bind (wpAny_bind (wpAny_onRaise ?_))
    show wpAny _ _ (Builtin.SmallTypes.nextOf (.ref i) >>= _) _ _ _
    refine wpAny_bind (wpAny_nextOf_list_item (h1.extBut s1.extBut D.i1z) (hl.extBut s1.extBut D.l1z) hx fun g2 p2 s2 => wpAny_pure ?_)
    have o2 : IsPair g2 TO a b := s2.extBut _ _ D.TOi1 (s1.extBut _ _ D.TOz hO)
    refine wpAny_bind (wpAny_seqItems o2 rfl ?_)
    refine wpAny_bind (wpAny_updateSeq_pair o2 fun g3 o3 s3 => ?_)
    replace o3 : IsPair g3 TO x b := o3
    refine wpAny_bind (wpAny_letGo (wpAny_pure ?_))
    refine wpAny_bind (wpAny_bind (wpAny_onRaise ?_))
    show wpAny _ _ (Builtin.SmallTypes.nextOf (.ref j) >>= _) _ _ _
    have q2 := ((h2.extBut s1.extBut D.i2z).extBut s2.extBut D.i12.symm).extBut s3.extBut D.TOi2.symm
    have r2 := ((hr.extBut s1.extBut D.l2z).extBut s2.extBut D.l2i1).extBut s3.extBut D.l2TO
    refine wpAny_bind (wpAny_nextOf_list_item q2 r2 hy fun g4 p4 s4 => wpAny_pure ?_)
    have o4 : IsPair g4 TO x b := s4.extBut _ _ D.TOi2 o3
    refine wpAny_bind (wpAny_seqItems o4 rfl ?_)
    refine wpAny_bind (wpAny_updateSeq_pair o4 fun g5 o5 s5 => ?_)
    replace o5 : IsPair g5 TO x y := o5
    refine wpAny_bind (wpAny_letGo (wpAny_pure (wpAny_pure ?_)))
    refine wpAny_bind (wpAny_seqItems o5 rfl ?_)
    refine wpAny_bind (wpAny_newTuple ?_)
    have sz : g5.objs.size = s.heap.objs.size := by rw [s5.1, s4.1, s3.1, s2.1, s1.1]
    have z5 : ZP g5 z TI TO .ellipsis n := s5.extBut _ _ D.TOz.symm (s4.extBut _ _ D.i2z.symm (s3.extBut _ _ D.TOz.symm (s2.extBut _ _ D.i1z.symm z1)))
    have keep : ∀ c o, c ≠ z → c ≠ TO → c ≠ i → c ≠ j → s.heap.get? c = some o → g5.get? c = some o := fun c o n1 n2 n3 n4 e =>
      s5.extBut _ _ n2 (s4.extBut _ _ n4 (s3.extBut _ _ n2 (s2.extBut _ _ n3 (s1.extBut _ _ n1 e))))
    have p5 : g5.IsListIter i l (k + 1) := ((p2.extBut s3.extBut D.TOi1.symm).extBut s4.extBut D.i12).extBut s5.extBut D.TOi1.symm
    have q5 : g5.IsListIter j r (k + 1) := p4.extBut s5.extBut D.TOi2.symm
    have zlt : z < g5.objs.size := Heap.lt_size z5
    show wpAny _ _ (Builtin.SmallTypes.ownedTupleHandOut (.ref z) (.ref g5.objs.size) >>= _) _ _ _
    refine wpAny_bind ?_
    unfold Builtin.SmallTypes.ownedTupleHandOut
    have z6 : ZP (g5.push { cls := .type "tuple", data := .seq #[x, y] }) z TI TO .ellipsis n := Heap.get?_push_of_some _ z5
    refine wpAny_bind (wpAny_setField_rec z6 (by simp) fun g7 z7 s7 => ?_)
    replace z7 : ZP g7 z TI TO (rawInt g5.objs.size) n := z7
    refine wpAny_setField_rec z7 (by simp) fun g8 z8 s8 => ?_
    replace z8 : ZP g8 z TI TO (rawInt g5.objs.size) (.bool false) := z8
    have up : ∀ c o, c ≠ z → g5.get? c = some o → g8.get? c = some o := fun c o n1 e => s8.extBut _ _ n1 (s7.extBut _ _ n1 (Heap.get?_push_of_some _ e))
    have t8 : IsPair g8 g5.objs.size x y := s8.extBut _ _ (Nat.ne_of_gt zlt) (s7.extBut _ _ (Nat.ne_of_gt zlt) (Heap.get?_push_size _ rfl))
    have sz8 : g8.objs.size = g5.objs.size + 1 := by rw [s8.1, s7.1, Heap.size_push]
    rw [sz] at z8 t8 sz8
    refine wpAny_pure ⟨_, rfl, ?_⟩
    show Q (.ref g5.objs.size) _
    rw [sz]
    exact hQ g8 _ _ z8 (.inr ⟨_, rfl⟩) ⟨_, _, up _ _ D.TOz o5⟩ (p5.at fun o e => up _ o D.i1z e) (q5.at fun o e => up _ o D.i2z e) t8 sz8 fun c o n1 n2 n3 n4 e => up c o n1 (keep c o n1 n2 n3 n4 e)
  · simp only [if_neg (show ¬ (false = true) from Bool.false_ne_true)]
    refine wpAny_bind ?_
    simp only [List.forIn_toArray, List.forIn_cons, List.forIn_nil]
    refine wpAny_bind (wpAny_bind (wpAny_holding ?_))
    show wpAny _ _ (Builtin.SmallTypes.nextOf (.ref i) >>= _) _ _ _
    refine wpAny_bind (wpAny_nextOf_list_item (h1.extBut s0.extBut D.i1z) (hl.extBut s0.extBut D.l1z) hx fun g2 p2 s2 => wpAny_pure (wpAny_pure ?_))
    refine wpAny_bind (wpAny_bind (wpAny_holding ?_))
    show wpAny _ _ (Builtin.SmallTypes.nextOf (.ref j) >>= _) _ _ _
    have q2 := (h2.extBut s0.extBut D.i2z).extBut s2.extBut D.i12.symm
    have r2 := (hr.extBut s0.extBut D.l2z).extBut s2.extBut D.l2i1
    refine wpAny_bind (wpAny_nextOf_list_item q2 r2 hy fun g4 p4 s4 => wpAny_pure (wpAny_pure (wpAny_pure ?_)))
    show wpAny _ _ (newTuple [x, y] >>= _) _ _ _
    refine wpAny_bind (wpAny_newTuple (wpAny_pure ⟨_, rfl, ?_⟩))
    have sz : g4.objs.size = s.heap.objs.size := by rw [s4.1, s2.1, s0.1]
    have z4 : ZP g4 z TI TO m (.bool true) := s4.extBut _ _ D.i2z.symm (s2.extBut _ _ D.i1z.symm z0)
    have keep : ∀ c o, c ≠ z → c ≠ TO → c ≠ i → c ≠ j → s.heap.get? c = some o → g4.get? c = some o := fun c o n1 n2 n3 n4 e =>
      s4.extBut _ _ n4 (s2.extBut _ _ n3 (s0.extBut _ _ n1 e))
    have p5 : g4.IsListIter i l (k + 1) := p2.extBut s4.extBut D.i12
    show Q (.ref g4.objs.size) _
    have t4 : IsPair (g4.push { cls := .type "tuple", data := .seq #[x, y] }) g4.objs.size x y := Heap.get?_push_size _ rfl
    have sz4 : (g4.push { cls := .type "tuple", data := .seq #[x, y] }).objs.size = g4.objs.size + 1 := Heap.size_push ..
    have o4 : IsPair g4 TO a b := s4.extBut _ _ D.TOi2 (s2.extBut _ _ D.TOi1 (s0.extBut _ _ D.TOz hO))
    rw [sz] at t4 sz4 ⊢
    exact hQ _ _ _ (Heap.get?_push_of_some _ z4) hm ⟨_, _, Heap.get?_push_of_some _ o4⟩ (p5.at fun o e => Heap.get?_push_of_some _ e) (p4.at fun o e => Heap.get?_push_of_some _ e) t4 sz4 fun c o n1 n2 n3 n4 e => Heap.get?_push_of_some _ (keep c o n1 n2 n3 n4 e)
theorem wz_end {z TI TO i j l r : Addr} {k : Nat} {xs ys : Array Value} {a b m n : Value} {Q : Fin → Shared → Prop} (hh : A.handled = none) (D : ZipApart z TI TO i j l r)
    (hz : ZP s.heap z TI TO m n) (hm : Mk m) (hI : IsPair s.heap TI (.ref i) (.ref j)) (hO : IsPair s.heap TO a b)
    (h1 : s.heap.IsListIter i l k) (h2 : s.heap.IsListIter j r k) (hl : s.heap.IsList l xs) (hr : s.heap.IsList r ys) (he : xs[k]? = none ∨ ys[k]? = none)
    (hE : ∀ h' e, (∀ c o, c ≠ z → c ≠ TO → c ≠ i → c ≠ j → s.heap.get? c = some o → h'.get? c = some o) → (∃ o, h'.get? e = some o ∧ o.cls = .type "StopIteration") → E (.ref e) { s with heap := h' }) :
    wpAny (model prog w) A (Builtin.«zip.__next__» ⟨[.ref z], []⟩) Q E s := by
  show wpAny _ _ (field (.ref z) 2 >>= _) _ _ _
  refine wpAny_bind (wpAny_field hz rfl (x := .bool false) rfl ?_)
  show wpAny _ _ (field (.ref z) 3 >>= _) _ _ _
  refine wpAny_bind (wpAny_field hz rfl (x := .ref TI) rfl ?_)
  refine wpAny_bind (wpAny_seqItems hI rfl ?_)
  show wpAny _ _ (Builtin.SmallTypes.ownedTupleIsFree (.ref z) >>= _) _ _ _
  refine wpAny_bind (wa_isFree hz hm ?_ fun g0 z0 s0 => ?_)
  · simp only [if_true]
    refine wpAny_bind (wpAny_rule ?_)
    refine wpAny_bind (wpAny_field hz rfl (x := .ref TO) rfl ?_)
    refine wpAny_bind (wpAny_setField_rec hz (by simp) fun g1 z1 s1 => ?_)
    replace z1 : ZP g1 z TI TO .ellipsis n := z1
    refine wpAny_bind ?_
    simp only [List.zipIdx_cons, List.zipIdx_nil, List.forIn_cons, List.forIn_nil]
    refine wpAny_bind (wpAny_bind (wpAny_onRaise ?_))
    show wpAny _ _ (Builtin.SmallTypes.nextOf (.ref i) >>= _) _ _ _
    cases hx : xs[k]? with
    | none =>
      refine wpAny_bind (wpAny_nextOf_list_end hh (h1.extBut s1.extBut D.i1z) (hl.extBut s1.extBut D.l1z) hx fun g2 e s2 ⟨oe, e1, e2⟩ => ?_)
      have z2 : ZP g2 z TI TO .ellipsis n := s2 _ _ D.i1z.symm z1
      have ne : e ≠ z := fun q => by subst q; rw [z2] at e1; cases e1; simp at e2
      exact wpAny_setField_rec z2 (by simp) fun g3 _ s3 => hE g3 e (fun c o n1 _ n3 _ q => s3.extBut _ _ n1 (s2 _ _ n3 (s1.extBut _ _ n1 q))) ⟨oe, s3.extBut _ _ ne e1, e2⟩
    | some x =>
      have hy : ys[k]? = none := by rcases he with h | h; (rw [hx] at h; cases h); exact h
      refine wpAny_bind (wpAny_nextOf_list_item (h1.extBut s1.extBut D.i1z) (hl.extBut s1.extBut D.l1z) hx fun g2 p2 s2 => wpAny_pure ?_)
      have o2 : IsPair g2 TO a b := s2.extBut _ _ D.TOi1 (s1.extBut _ _ D.TOz hO)
      refine wpAny_bind (wpAny_seqItems o2 rfl ?_)
      refine wpAny_bind (wpAny_updateSeq_pair o2 fun g3 o3 s3 => ?_)
      refine wpAny_bind (wpAny_letGo (wpAny_pure ?_))
      refine wpAny_bind (wpAny_bind (wpAny_onRaise ?_))
      show wpAny _ _ (Builtin.SmallTypes.nextOf (.ref j) >>= _) _ _ _
      have q2 := ((h2.extBut s1.extBut D.i2z).extBut s2.extBut D.i12.symm).extBut s3.extBut D.TOi2.symm
      have r2 := ((hr.extBut s1.extBut D.l2z).extBut s2.extBut D.l2i1).extBut s3.extBut D.l2TO
      refine wpAny_bind (wpAny_nextOf_list_end hh q2 r2 hy fun g4 e s4 ⟨oe, e1, e2⟩ => ?_)
      have z4 : ZP g4 z TI TO .ellipsis n := s4 _ _ D.i2z.symm (s3.extBut _ _ D.TOz.symm (s2.extBut _ _ D.i1z.symm z1))
      have ne : e ≠ z := fun q => by subst q; rw [z4] at e1; cases e1; simp at e2
      exact wpAny_setField_rec z4 (by simp) fun g5 _ s5 => hE g5 e (fun c o n1 n2 n3 n4 q => s5.extBut _ _ n1 (s4 _ _ n4 (s3.extBut _ _ n2 (s2.extBut _ _ n3 (s1.extBut _ _ n1 q))))) ⟨oe, s5.extBut _ _ ne e1, e2⟩
  · simp only [if_neg (show ¬ (false = true) from Bool.false_ne_true)]
    refine wpAny_bind ?_
    simp only [List.forIn_toArray, List.forIn_cons, List.forIn_nil]
    refine wpAny_bind (wpAny_bind (wpAny_holding ?_))
    show wpAny _ _ (Builtin.SmallTypes.nextOf (.ref i) >>= _) _ _ _
    cases hx : xs[k]? with
    | none =>
      exact wpAny_bind (wpAny_nextOf_list_end hh (h1.extBut s0.extBut D.i1z) (hl.extBut s0.extBut D.l1z) hx fun g2 e s2 ee => hE g2 e (fun c o n1 _ n3 _ q => s2 _ _ n3 (s0.extBut _ _ n1 q)) ee)
    | some x =>
      have hy : ys[k]? = none := by rcases he with h | h; (rw [hx] at h; cases h); exact h
      refine wpAny_bind (wpAny_nextOf_list_item (h1.extBut s0.extBut D.i1z) (hl.extBut s0.extBut D.l1z) hx fun g2 p2 s2 => wpAny_pure (wpAny_pure ?_))
      refine wpAny_bind (wpAny_bind (wpAny_holding ?_))
      show wpAny _ _ (Builtin.SmallTypes.nextOf (.ref j) >>= _) _ _ _
      have q2 := (h2.extBut s0.extBut D.i2z).extBut s2.extBut D.i12.symm
      have r2 := (hr.extBut s0.extBut D.l2z).extBut s2.extBut D.l2i1
      exact wpAny_bind (wpAny_nextOf_list_end hh q2 r2 hy fun g4 e s4 ee => hE g4 e (fun c o n1 n2 n3 n4 q => s4 _ _ n4 (s2.extBut _ _ n3 (s0.extBut _ _ n1 q))) ee)
theorem wz_nextI {z TI TO i j l r : Addr} {k : Nat} {xs ys : Array Value} {x y a b m n : Value} {Q : Option Value → Shared → Prop} (D : ZipApart z TI TO i j l r)
    (hz : ZP s.heap z TI TO m n) (hm : Mk m) (hI : IsPair s.heap TI (.ref i) (.ref j)) (hO : IsPair s.heap TO a b)
    (h1 : s.heap.IsListIter i l k) (h2 : s.heap.IsListIter j r k) (hl : s.heap.IsList l xs) (hr : s.heap.IsList r ys) (hx : xs[k]? = some x) (hy : ys[k]? = some y)
    (hQ : ∀ h' m' n', ZP h' z TI TO m' n' → Mk m' → (∃ a b, IsPair h' TO a b) → h'.IsListIter i l (k + 1) → h'.IsListIter j r (k + 1) → IsPair h' s.heap.objs.size x y → h'.objs.size = s.heap.objs.size + 1 →
      (∀ c o, c ≠ z → c ≠ TO → c ≠ i → c ≠ j → s.heap.get? c = some o → h'.get? c = some o) → Q (some (.ref s.heap.objs.size)) { s with heap := h' }) : wpAny (model prog w) A (pyNext (.ref z)) Q E s := by
  have t : s.TypeIs (.ref z) "zip" := ⟨_, hz, rfl⟩
  unfold pyNext
  refine wpAny_bind (wpAny_attempt (wpAny_callSpecial?_slot (name := Str.ofString "__next__") t F.slot_zip_next ?_))
  refine wpAny_call_entry F.slot_zip_next t F.entry_zip_next ?_ (F.args_zip_next_1 _)
  exact wz_item D hz hm hI hO h1 h2 hl hr hx hy fun h' m' n' a1 a2 a3 a4 a5 a6 a7 a8 => wpAny_pure (hQ h' m' n' a1 a2 a3 a4 a5 a6 a7 a8)
theorem wz_nextE {z TI TO i j l r : Addr} {k : Nat} {xs ys : Array Value} {a b m n : Value} {Q : Option Value → Shared → Prop} (hh : A.handled = none) (D : ZipApart z TI TO i j l r)
    (hz : ZP s.heap z TI TO m n) (hm : Mk m) (hI : IsPair s.heap TI (.ref i) (.ref j)) (hO : IsPair s.heap TO a b)
    (h1 : s.heap.IsListIter i l k) (h2 : s.heap.IsListIter j r k) (hl : s.heap.IsList l xs) (hr : s.heap.IsList r ys) (he : xs[k]? = none ∨ ys[k]? = none)
    (hQ : ∀ h', (∀ c o, c ≠ z → c ≠ TO → c ≠ i → c ≠ j → s.heap.get? c = some o → h'.get? c = some o) → Q none { s with heap := h' }) : wpAny (model prog w) A (pyNext (.ref z)) Q E s := by
  have t : s.TypeIs (.ref z) "zip" := ⟨_, hz, rfl⟩
  unfold pyNext
  refine wpAny_bind (wpAny_attempt (wpAny_callSpecial?_slot (name := Str.ofString "__next__") t F.slot_zip_next ?_))
  refine wpAny_call_entry F.slot_zip_next t F.entry_zip_next ?_ (F.args_zip_next_1 _)
  refine wz_end hh D hz hm hI hO h1 h2 hl hr he fun h' e keep ⟨o, e1, e2⟩ => ?_
  exact wpAny_bind (wpAny_isInstance (T := "StopIteration") (b := true) ⟨o, e1, e2⟩ isSubtype_stop (wpAny_pure (hQ _ keep)))
theorem wz_iter {z TI TO : Addr} {m n : Value} {Q : Value → Shared → Prop} (hz : ZP s.heap z TI TO m n) (h : Q (.ref z) s) : wpAny (model prog w) A (pyIter (.ref z)) Q E s := by
  have t : s.TypeIs (.ref z) "zip" := ⟨_, hz, rfl⟩
  refine wpAny_pyIter_slot t F.slot_zip_iter (wpAny_call_entry F.slot_zip_iter t F.entry_zip_iter ?_ (F.args_zip_iter_1 _))
  show wpAny _ _ (ret (.ref z)) _ _ s
  exact wpAny_pure ⟨_, rfl, "zip", _, t, F.slot_zip_next.lookup, h⟩
end
section
variable {P : Program} {w : World} {K : PySem.W.Frag} {x : Str} {px : Pos}
/-- where each of the five things of the zip stands -/
theorem five {α : Type} {c z t o i j : α} {p : α → Prop} (h : c ∈ [z, t, o, i, j]) (h1 : p z) (h2 : p t) (h3 : p o) (h4 : p i) (h5 : p j) : p c := by
  simp only [List.mem_cons, List.not_mem_nil, or_false] at h
  rcases h with e | e | e | e | e <;> (subst e; assumption)
theorem turn_zipN {a b z t o i j : Addr} (D : ZipApart z t o i j a b) :
    Turn P w K (.Name x px) (Itz K a b) [z, t, o, i, j] z (fun k h => (∃ m n, ZP h z t o m n ∧ Mk m) ∧ IsPair h t (.ref i) (.ref j) ∧ (∃ x y, IsPair h o x y) ∧ h.IsListIter i a k ∧ h.IsListIter j b k) where
  mem := by simp
  obj := fun k h st c hc => by
    obtain ⟨⟨m, n, hz, _⟩, hI, ⟨x, y, hO⟩, ⟨o1, e1, _, d1⟩, ⟨o2, e2, _, d2⟩⟩ := st
    refine five (p := fun c => ∃ u, h.get? c = some u ∧ ∀ v, u.data ≠ .cell v) hc ⟨_, hz, fun v q => nomatch q⟩ ⟨_, hI, fun v q => nomatch q⟩ ⟨_, hO, fun v q => nomatch q⟩ ?_ ?_
    · exact ⟨o1, e1, fun v q => by rw [d1] at q; cases q⟩
    · exact ⟨o2, e2, fun v q => by rw [d2] at q; cases q⟩
  keep := fun k h h' st kk => by
    obtain ⟨⟨m, n, hz, hm⟩, hI, ⟨x, y, hO⟩, h1, h2⟩ := st
    exact ⟨⟨m, n, kk z (by simp) _ hz, hm⟩, kk t (by simp) _ hI, ⟨x, y, kk o (by simp) _ hO⟩, h1.at fun u q => kk i (by simp) u q, h2.at fun u q => kk j (by simp) u q⟩
  item := by
    intro X hP hw hK hc k pins s σ H E I hf st hg
    subst hP hw hK
    obtain ⟨⟨m, n, hz, hm⟩, hI, ⟨x0, y0, hO⟩, h1, h2⟩ := st
    obtain ⟨xs, ys, x, y, gx, gy, ex, ey⟩ := hg
    obtain ⟨its, rv, p, _⟩ := I.list gx
    obtain ⟨its2, rv2, p2, _⟩ := I.list gy
    obtain ⟨u, hu, ru⟩ := rv.get ex
    obtain ⟨u2, hu2, ru2⟩ := rv2.get ey
    refine wz_nextI D hz hm hI hO h1 h2 p.isList p2.isList (x := u) (y := u2) (by simpa using hu) (by simpa using hu2) fun h' m' n' z' mk' O' p1' p2' T' sz' keep => ?_
    have new : ObjOk X.prog X.w (upd H s.heap.objs.size (.tup [x, y])) h' s.heap.objs.size (.tup [x, y]) :=
      ⟨by show 2 ≤ sizeLine; decide, [u, u2], .cons ru (.cons ru2 .nil), ⟨_, T', rfl, _, rfl⟩⟩
    have I1 : Inv X pins σ (upd H s.heap.objs.size (.tup [x, y])) { s with heap := h' } := by
      refine I.turnedNew (t' := s.toks) (ch := [z, t, o, i, j]) (fun c u hb q => ?_) hf (Nat.le_refl _) new
      simp only [List.mem_cons, List.not_mem_nil, or_false, not_or] at hb
      exact keep c u hb.1 hb.2.2.1 hb.2.2.2.1 hb.2.2.2.2 q
    have tI : IsPair h' t (.ref i) (.ref j) := keep _ _ D.TIz D.TITO D.TIi1 D.TIi2 hI
    refine ⟨.ref s.heap.objs.size, rfl, wpAny_of_eq (rfl : letOwnedTupleGo (.Name _ px) (.ref z) _ = pure ()) ?_⟩
    refine ⟨.ref s.heap.objs.size, _, I1, rfl, ⟨_, x, y, rfl, I.hok.fresh (Nat.le_refl _), rfl, fun l hl => by rw [I.list_inj hl gx]; exact ex, fun l hl => by rw [I.list_inj hl gy]; exact ey⟩, ⟨⟨m', n', z', mk'⟩, tI, O', p1', p2'⟩, fun c hcm => ?_⟩
    have lt : c < s.heap.objs.size := five (p := (· < s.heap.objs.size)) hcm (Heap.lt_size hz) (Heap.lt_size hI) (Heap.lt_size hO) (by obtain ⟨_, e1, _⟩ := h1; exact Heap.lt_size e1) (by obtain ⟨_, e2, _⟩ := h2; exact Heap.lt_size e2)
    rw [upd_ne (Nat.ne_of_lt lt)]
    exact (hf c hcm).1
  done := by
    intro X hP hw hK hc k pins s σ H E I hf st hg
    subst hP hw hK
    obtain ⟨⟨m, n, hz, hm⟩, hI, ⟨x0, y0, hO⟩, h1, h2⟩ := st
    obtain ⟨xs, ys, gx, gy, hend⟩ := hg
    obtain ⟨its, rv, p, _⟩ := I.list gx
    obtain ⟨its2, rv2, p2, _⟩ := I.list gy
    have l1 := rv.length
    have l2 := rv2.length
    have he : its.toArray[k]? = none ∨ its2.toArray[k]? = none := hend.imp (fun q => by simp; omega) fun q => by simp; omega
    refine wz_nextE (I.ok.hd hc) D hz hm hI hO h1 h2 p.isList p2.isList he fun h' keep => ⟨rfl, I.turnedL (t' := s.toks) (ch := [z, t, o, i, j]) (fun c u hb q => ?_) hf⟩
    simp only [List.mem_cons, List.not_mem_nil, or_false, not_or] at hb
    exact keep c u hb.1 hb.2.2.1 hb.2.2.2.1 hb.2.2.2.2 q
  self := fun A i s Q E st h => let ⟨⟨_, _, e, _⟩, _⟩ := st; wz_iter e h
theorem pi_zipN {X : Cx} {e e2 : Expr} {ta : TA} {p pos : Pos} (hg : Gl X "zip") (hm : X.mg "zip" = none) (ha : PA X [e, e2] ta)
    (hs : starEach [e, e2] X.env = (false, eval e X.env) :: starEach [e2] X.env := by rfl) (hpl : (backTo pos (starEach [e2] X.env)).any (·.1) = false := by rfl) :
    PI X (.Name x px) (.Call (.Name "zip" p) [e, e2] [] pos) (iZip X.K ta) := by
  refine ⟨fun pins s σ H R I h => Call_ (ld_blt I hg hm PyProof.Rows.boot_zip ?_)⟩
  refine PyProof.Rows.callWith_type1 (thn (ha.run pos pins s σ H _ I h) ?_) hs hpl
  rintro us s1 ⟨vs, H1, I1, rr, a, b, xs, ys, rfl, gx, gy, q⟩
  cases rr with
  | cons r rr =>
    cases rr with
    | cons r' rr =>
      cases rr; cases r; cases r'
      obtain ⟨its, rv, p1, _⟩ := I1.list gx
      obtain ⟨its2, rv2, p2, _⟩ := I1.list gy
      refine call_zip_2 p1.isList p2.isList fun h' hz hI hO h1 h2 hsz hk => wz_iter hz ?_
      have I2 : Inv X pins σ H1 { s1 with heap := h' } := I1.kept (t' := s1.toks) hk
      have new : ∀ c, s1.heap.objs.size ≤ c → FpOk X pins H1 c := fun c le => I1.fpOk le (I1.hok.fresh le)
      have D := PySem.W.ktu_apart s1.heap.objs.size a b p1.lt p2.lt
      refine ⟨_, [s1.heap.objs.size + 4, s1.heap.objs.size + 2, s1.heap.objs.size + 3, s1.heap.objs.size, s1.heap.objs.size + 1], _, _, H1, rfl, I2, turn_zipN D, ⟨⟨_, _, hz, .inl rfl⟩, hI, ⟨_, _, hO⟩, h1, h2⟩, fun c hc => ?_, q⟩
      exact five (p := FpOk X pins H1) hc (new _ (Nat.le_add_right ..)) (new _ (Nat.le_add_right ..)) (new _ (Nat.le_add_right ..)) (new _ (Nat.le_refl _)) (new _ (Nat.le_add_right ..))
end
section
variable {X : Cx} {ct : Ct} {x : Str} {px pos p : Pos} {e e2 : Expr} {fe f2 : FE}
/-- lists alone -/
def fZipN (f g : FE) : FI := fun env M => bnd (f env M) fun a M1 => bnd (g env M1) fun b M2 => match a, b with
  | .loc m, .loc n => match M2[m]?, M2[n]? with
    | some (.lst xs), some (.lst ys) => match srcZ M2 (.loc m) (.loc n) with
      | some src => some (src, M2)
      | none => none
    | _, _ => none
  | _, _ => none
theorem si_zipN (hg : Gl X "zip") (hm : X.mg "zip" = none) (h : SE X ct e fe) (h2 : SE X ct e2 f2) (hs1 : starEach [e, e2] X.env = (false, eval e X.env) :: starEach [e2] X.env := by rfl) (hs2 : starEach [e2] X.env = [(false, eval e2 X.env)] := by rfl)
    (hpl : (backTo pos (starEach [e2] X.env)).any (·.1) = false := by rfl) : SI X ct (.Name x px) (.Call (.Name "zip" p) [e, e2] [] pos) (fZipN fe f2) := by
  refine PI.imp (pi_zipN hg hm (sa_cons h (sa_cons h2 sa_nil hs2) hs1) hs1 hpl) fun σ H R ⟨ρ, M, env, r, he, src, M', hf, hq⟩ => ?_
  obtain ⟨d, M1, h1, hf⟩ := bnd_some hf
  obtain ⟨d2, M2, h2, hf⟩ := bnd_some hf
  refine ⟨ρ, M, env, r, he, [d, d2], M2, by show bnd (fe env M) _ = _; rw [h1]; show bnd (bnd (f2 env M1) _) _ = _; rw [h2]; rfl, ?_⟩
  intro ρ1 H1 e1 r1 vs dvs
  obtain ⟨u, u', rfl, q1, q2⟩ := dvs_two dvs
  split at hf
  · split at hf
    · rename_i g1 g2
      split at hf
      · rename_i s0 hs
        cases hf
        simp only [srcZ, g1, g2, Option.some.injEq] at hs
        subst hs
        obtain ⟨a, ws, rfl, a1, a2, a3⟩ := r1.lst g1 q1
        obtain ⟨b, ws2, rfl, b1, b2, b3⟩ := r1.lst g2 q2
        exact ⟨_, _, _, _, rfl, SqL.of a2, SqL.of b2, hq ρ1 H1 e1 r1 _ (feeds_zipL a1 b1)⟩
      · cases hf
    · cases hf
  · cases hf
end
end Zl

/-! text Y1 -/
namespace Zl
open PySem L2 PySem.Spec PyProof.Rows

/-! ## running the mirrors -/
/-- the run ends, and so -/
def Wp {α : Type} (r : Option (α × Mem)) (Q : α → Mem → Prop) : Prop := ∃ a M, r = some (a, M) ∧ Q a M
section
variable {α β : Type} {r : Option (α × Mem)} {Q : α → Mem → Prop} {a : α} {M M' : Mem}
theorem wp_ev (h : r = some (a, M')) (q : Q a M') : Wp r Q := ⟨a, M', h, q⟩
theorem wp_ok (q : Q a M) : Wp (some (a, M)) Q := ⟨a, M, rfl, q⟩
theorem Wp.go {P : α → Mem → Prop} (h : Wp r P) (k : ∀ a M, P a M → Q a M) : Wp r Q := by
  obtain ⟨a, M, e, p⟩ := h
  exact ⟨a, M, e, k a M p⟩
theorem wp_bnd {k : α → Mem → Option (β × Mem)} {Q : β → Mem → Prop} (h : Wp r fun a M => Wp (k a M) Q) : Wp (bnd r k) Q := by
  obtain ⟨a, M, rfl, b, M2, e, q⟩ := h
  exact ⟨b, M2, e, q⟩
end
abbrev QE := Dv → Mem → Prop
abbrev QS := Fl → Mem → Prop
def kSeq (g : FS) (Q : QS) : QS := fun fl M => match fl with
  | .nx e => Wp (g e M) Q
  | .rt d => Q (.rt d) M
  | .bk e => Q (.bk e) M
  | .ct e => Q (.ct e) M
def kFn (Q : QE) : QS := fun fl M => match fl with
  | .nx _ => Q .non M
  | .rt d => Q d M
  | _ => False
def kLen (n : Nat) (Q : List Dv → Mem → Prop) : List Dv → Mem → Prop := fun ds M => ds.length = n ∧ Q ds M
theorem k_len {n : Nat} {Q : List Dv → Mem → Prop} {ds : List Dv} {M : Mem} (h : ds.length = n) (k : Q ds M) : kLen n Q ds M := ⟨h, k⟩
def kLe (Q : List Dv → Mem → Prop) : List Dv → Mem → Prop := fun ds M => ds.length ≤ sizeLine ∧ Q ds M
theorem k_le {Q : List Dv → Mem → Prop} {ds : List Dv} {M : Mem} (h : ds.length.ble sizeLine = true) (k : Q ds M) : kLe Q ds M := ⟨Nat.le_of_ble_eq_true h, k⟩
def kIf {α : Type} (f g : Mem → Option (α × Mem)) (Q : α → Mem → Prop) : Bool → Mem → Prop := fun b M => match b with
  | true => Wp (f M) Q
  | false => Wp (g M) Q
section
variable {env e : En} {M : Mem} {d x : Dv} {f g : FS} {fa fb fc : FE} {ft fu : FT} {fr : FA} {Q : QS} {q : QE} {qt : Bool → Mem → Prop} {qa : List Dv → Mem → Prop} {i j n : Nat} {ds : List Dv}
theorem k_nx (h : Wp (g e M) Q) : kSeq g Q (.nx e) M := h
theorem k_rt (h : Q (.rt d) M) : kSeq g Q (.rt d) M := h
theorem k_bk (h : Q (.bk e) M) : kSeq g Q (.bk e) M := h
theorem k_ct (h : Q (.ct e) M) : kSeq g Q (.ct e) M := h
theorem kf_nx (h : q .non M) : kFn q (.nx e) M := h
theorem kf_rt (h : q d M) : kFn q (.rt d) M := h
theorem ki_t {α : Type} {f g : Mem → Option (α × Mem)} {Q : α → Mem → Prop} (h : Wp (f M) Q) : kIf f g Q true M := h
theorem ki_f {α : Type} {f g : Mem → Option (α × Mem)} {Q : α → Mem → Prop} (h : Wp (g M) Q) : kIf f g Q false M := h
theorem ki_of {α : Type} {f g : Mem → Option (α × Mem)} {Q : α → Mem → Prop} {b c : Bool} (e : b = c) (h : kIf f g Q c M) : kIf f g Q b M := e ▸ h
theorem wp_seq (h : Wp (f env M) (kSeq g Q)) : Wp (fSeq f g env M) Q := by
  refine wp_bnd (h.go fun fl M1 k => ?_)
  cases fl with
  | nx e => exact k
  | rt d => exact wp_ok k
  | bk e => exact wp_ok k
  | ct e => exact wp_ok k
theorem wp_fn {b : FS} {m : FF} (hm : m = callF n b) (env : En) (he : ds.map some ++ List.replicate (n - ds.length) none = env) (h : Wp (b env M) (kFn q)) : Wp (m ds M) q := by
  subst hm; subst he
  obtain ⟨fl, M1, e, k⟩ := h
  show Wp (match b _ M with | some (.rt d, M') => some (d, M') | some (.nx _, M') => some (.non, M') | _ => none) q
  rw [e]
  cases fl with
  | nx e => exact wp_ok k
  | rt d => exact wp_ok k
  | bk e => exact k.elim
  | ct e => exact k.elim
theorem wp_end (h : Q (.nx env) M) : Wp (fEnd env M) Q := wp_ok h
theorem wp_brk (h : Q (.bk env) M) : Wp (fBrk env M) Q := wp_ok h
theorem wp_cnt (h : Q (.ct env) M) : Wp (fCnt env M) Q := wp_ok h
theorem wp_drop (h : Wp (fa env M) fun _ M1 => Q (.nx env) M1) : Wp (fDrop fa env M) Q := wp_bnd (h.go fun _ _ k => wp_ok k)
theorem wp_ret (h : Wp (fa env M) fun d M1 => Q (.rt d) M1) : Wp (fRet fa env M) Q := wp_bnd (h.go fun _ _ k => wp_ok k)
theorem wp_set (h : Wp (fa env M) fun d M1 => Q (.nx (env.set i (some d))) M1) : Wp (fSet i fa env M) Q := wp_bnd (h.go fun _ _ k => wp_ok k)
theorem wp_asg {gg : FG} (h : Wp (fa env M) fun d M1 => Wp (gg d env M1) fun e1 M2 => Q (.nx e1) M2) : Wp (fAsg fa gg env M) Q := wp_bnd (h.go fun _ _ k => wp_bnd (k.go fun _ _ k => wp_ok k))
theorem wp_par {is : List Nat} (h : Wp (fr env M) (kLen is.length fun ds M1 => Q (.nx ((is.zip ds).foldl (fun e p => e.set p.1 (some p.2)) env)) M1)) : Wp (fPar is fr env M) Q :=
  wp_bnd (h.go fun ds M1 k => by
    show Wp (if _ then _ else _) _
    rw [if_pos k.1]
    exact wp_ok k.2)
theorem wp_ifs (h : Wp (ft env M) (kIf (f env) (g env) Q)) : Wp (fIfS ft f g env M) Q := wp_bnd (h.go fun b M1 k => by
  cases b with
  | true => exact k
  | false => exact k)
theorem wp_var (h : env[i]? = some (some d)) (k : q d M) : Wp (fV i env M) q := ⟨d, M, by unfold fV; rw [h], k⟩
theorem wp_k (k : q d M) : Wp (fK d env M) q := wp_ok k
theorem wp_op {h : Dv → Dv → Mem → Option (Dv × Mem)} (k : Wp (fa env M) fun x M1 => Wp (fb env M1) fun y M2 => Wp (h x y M2) q) : Wp (fO h fa fb env M) q := wp_bnd (k.go fun _ _ k => wp_bnd k)
theorem wp_un {h : Dv → Mem → Option (Dv × Mem)} (k : Wp (fa env M) fun x M1 => Wp (h x M1) q) : Wp (fU h fa env M) q := wp_bnd k
def kCh (h : Mem → Option (Dv × Mem)) (q : QE) : QE := fun z M => match z with
  | .bl true => Wp (h M) q
  | .bl false => q (.bl false) M
  | _ => False
theorem kc_t {h : Mem → Option (Dv × Mem)} (k : Wp (h M) q) : kCh h q (.bl true) M := k
theorem kc_f {h : Mem → Option (Dv × Mem)} (k : q (.bl false) M) : kCh h q (.bl false) M := k
theorem kc_of {h : Mem → Option (Dv × Mem)} {b c : Bool} (e : b = c) (k : kCh h q (.bl c) M) : kCh h q (.bl b) M := e ▸ k
theorem wp_chain {h h' : Dv → Dv → Mem → Option (Dv × Mem)} (k : Wp (fa env M) fun x M1 => Wp (fb env M1) fun y M2 => Wp (h x y M2) (kCh (fun M3 => bnd (fc env M3) fun w M4 => h' y w M4) q)) : Wp (fChain h h' fa fb fc env M) q :=
  wp_bnd (k.go fun x M1 k => wp_bnd (k.go fun y M2 k => wp_bnd (k.go fun z M3 k => by
    cases z with
    | bl b => cases b with
      | true => exact k
      | false => exact wp_ok k
    | _ => exact k.elim)))
def kB (Q : Bool → Mem → Prop) : QE := fun d M => match d with
  | .bl b => Q b M
  | _ => False
theorem kb (b : Bool) (h : qt b M) : kB qt (.bl b) M := h
theorem wp_b (h : Wp (fa env M) (kB qt)) : Wp (fB fa env M) qt := wp_bnd (h.go fun d M1 k => by
  cases d with
  | bl b => exact wp_ok k
  | _ => exact k.elim)
theorem wp_trB (h : Wp (fa env M) (kB qt)) : Wp (fTr fa env M) qt := wp_bnd (h.go fun d M1 k => by
  cases d with
  | bl b => exact wp_ok k
  | _ => exact k.elim)
theorem wp_not (h : Wp (ft env M) fun b M1 => qt (!b) M1) : Wp (fNotT ft env M) qt := wp_bnd (h.go fun _ _ k => wp_ok k)
theorem wp_andT (h : Wp (ft env M) (kIf (fu env) (fun M1 => some (false, M1)) qt)) : Wp (fAndT ft fu env M) qt := wp_bnd (h.go fun b M1 k => by
  cases b with
  | true => exact k
  | false => exact k)
theorem wp_orT (h : Wp (ft env M) (kIf (fun M1 => some (true, M1)) (fu env) qt)) : Wp (fOrT ft fu env M) qt := wp_bnd (h.go fun b M1 k => by
  cases b with
  | true => exact k
  | false => exact k)
theorem wp_andV (h : Wp (fa env M) (kCh (fb env) q)) : Wp (fAndV fa fb env M) q := wp_bnd (h.go fun z M1 k => by
  cases z with
  | bl b => cases b with
    | true => exact k
    | false => exact wp_ok k
  | _ => exact k.elim)
theorem wp_notV (h : Wp (fa env M) (kB fun b M1 => q (.bl !b) M1)) : Wp (fNotV fa env M) q := wp_bnd (h.go fun d M1 k => by
  cases d with
  | bl b => exact wp_ok k
  | _ => exact k.elim)
theorem wp_if (h : Wp (ft env M) (kIf (fa env) (fb env) q)) : Wp (fIf ft fa fb env M) q := wp_bnd (h.go fun b M1 k => by
  cases b with
  | true => exact k
  | false => exact k)
theorem wp_nil (h : qa [] M) : Wp (fNil env M) qa := wp_ok h
theorem wp_cons (h : Wp (fa env M) fun d M1 => Wp (fr env M1) fun ds M2 => qa (d :: ds) M2) : Wp (fCons fa fr env M) qa := wp_bnd (h.go fun _ _ k => wp_bnd (k.go fun _ _ k => wp_ok k))
theorem wp_tup (h : Wp (fr env M) (kLe fun ds M1 => q (.tup ds) M1)) : Wp (fTup fr env M) q := wp_bnd (h.go fun ds M1 k => by
  show Wp (if _ then _ else _) _
  rw [if_pos k.1]; exact wp_ok k.2)
theorem wp_lst (h : Wp (fr env M) (kLe fun ds M1 => q (.loc M1.length) (M1 ++ [.lst ds]))) : Wp (fLst fr env M) q := wp_bnd (h.go fun ds M1 k => by
  show Wp (if _ then _ else _) _
  rw [if_pos k.1]; exact wp_ok k.2)
theorem wp_c {h : List Dv → Mem → Option (Dv × Mem)} (k : Wp (fr env M) fun ds M1 => Wp (h ds M1) q) : Wp (fC h fr env M) q := wp_bnd k
theorem wp_call {F : FF} (h : Wp (fr env M) (kLen n fun ds M1 => Wp (F ds M1) q)) : Wp (fCall n F fr env M) q := wp_bnd (h.go fun ds M1 k => by
  show Wp (if _ then _ else _) _
  rw [if_pos k.1]; exact k.2)
theorem wp_callK {F : FF} {nk : Nat} {is : List Nat} (h : Wp (fr env M) fun ds M1 => (ds.length = nk ∧ (pick is ds).length = n) ∧ Wp (F (pick is ds) M1) q) : Wp (fCallK n nk is F fr env M) q := wp_bnd (h.go fun ds M1 k => by
  show Wp (if _ then _ else _) _
  rw [if_pos k.1]; exact k.2)
theorem wp_fld {c : Nat} {fld : Str} (h : Wp (fa env M) fun d M1 => ∃ k fs x, d = .loc k ∧ M1[k]? = some (.ins c fs) ∧ fs.lookup fld = some x ∧ q x M1) : Wp (fFld c fld fa env M) q := wp_bnd (h.go fun d M1 ⟨k, fs, x, e, h1, h2, h3⟩ => by
  subst e
  show Wp (match M1[k]? with | some (.ins c' fs) => if c' = c then match fs.lookup fld with | some x => some (x, M1) | none => none else none | _ => none) _
  simp only [h1, if_true, h2]
  exact wp_ok h3)
theorem wp_put {c : Nat} {fld : Str} (h : Wp (fa env M) fun y M1 => Wp (fb env M1) fun d M2 => ∃ k fs, d = .loc k ∧ M2[k]? = some (.ins c fs) ∧ fs.length < 1000 ∧ Q (.nx env) (M2.set k (.ins c (putD fld y fs)))) : Wp (fPut c fld fb fa env M) Q :=
  wp_bnd (h.go fun y M1 k => wp_bnd (k.go fun d M2 ⟨k, fs, e, h1, h2, h3⟩ => by
    subst e
    show Wp (match M2[k]? with | some (.ins c' fs) => if c' = c ∧ fs.length < 1000 then some (Fl.nx env, M2.set k (.ins c (putD fld y fs))) else none | _ => none) _
    simp only [h1, h2, and_self, if_true]
    exact wp_ok h3))
theorem wp_meth {c np : Nat} {m : Str} {F : FF} (h : Wp (fa env M) fun d M1 => isIns c m d M1 = true ∧ Wp (fr env M1) fun ds M2 => (d :: ds).length = np ∧ Wp (F (d :: ds) M2) q) : Wp (fMeth c m np F fa fr env M) q := wp_bnd (h.go fun d M1 k => by
  show Wp (if _ then _ else _) _
  rw [if_pos k.1]
  refine wp_bnd (k.2.go fun ds M2 k => ?_)
  show Wp (if _ then _ else _) _
  rw [if_pos k.1]
  exact k.2)
theorem wp_make {c np : Nat} {F : FF} (h : Wp (fr env M) fun ds M1 => ds.length + 1 = np ∧ Wp (F (.loc M1.length :: ds) (M1 ++ [.ins c []])) fun d M2 => d = .non ∧ q (.loc M1.length) M2) : Wp (fMake c np F fr env M) q := wp_bnd (h.go fun ds M1 k => by
  show Wp (if _ then _ else _) _
  rw [if_pos k.1]
  refine wp_bnd (k.2.go fun d M2 ⟨e, k⟩ => ?_)
  subst e
  exact wp_ok k)
theorem wp_m {T : String} {h : FM} (k : Wp (fa env M) fun d M1 => isTy T d M1 = true ∧ Wp (fr env M1) fun ds M2 => Wp (h d ds M2) q) : Wp (fM T h fa fr env M) q := wp_bnd (k.go fun d M1 k => by
  show Wp (if _ then _ else _) _
  rw [if_pos k.1]
  exact wp_bnd k.2)
theorem wp_or1 (h : Wp (fa env M) q) : Wp (fOr fa fb env M) q := by
  obtain ⟨d, M1, e, k⟩ := h
  exact ⟨d, M1, by unfold fOr; rw [e], k⟩
theorem wp_or2 (h1 : fa env M = none) (h : Wp (fb env M) q) : Wp (fOr fa fb env M) q := by
  obtain ⟨d, M1, e, k⟩ := h
  exact ⟨d, M1, by unfold fOr; rw [h1, e], k⟩
theorem wp_slP {flo fhi : FO} (h : Wp (fa env M) fun d M1 => Wp (flo env M1) fun lo M2 => Wp (fhi env M2) fun hi M3 => Wp (slD d lo hi M3) q) : Wp (fSl fa flo fhi env M) q := wp_bnd (h.go fun _ _ k => wp_bnd (k.go fun _ _ k => wp_bnd k))
theorem wp_noP {qo : Option Int → Mem → Prop} (h : qo none M) : Wp (fNoP env M) qo := wp_ok h
theorem wp_P {qo : Option Int → Mem → Prop} (h : Wp (fa env M) fun d M1 => ∃ i, d = .int i ∧ qo (some i) M1) : Wp (fP fa env M) qo := wp_bnd (h.go fun d M1 ⟨i, e, k⟩ => by
  subst e; exact wp_ok k)
end
section
variable {env : En} {M : Mem} {d : Dv} {fo fi : FE} {qe : En → Mem → Prop}
theorem wp_addI {i j : Int} {q : QE} (k : q (.int (i + j)) M) : Wp (addD (.int i) (.int j) M) q := wp_ok k
theorem wp_subI {i j : Int} {q : QE} (k : q (.int (i - j)) M) : Wp (subD (.int i) (.int j) M) q := wp_ok k
theorem wp_cmp {p : Int → Int → Bool} {i j : Int} {q : QE} (k : q (.bl (p i j)) M) : Wp (cmpI p (.int i) (.int j) M) q := wp_ok k
theorem wp_modI {i j : Int} {q : QE} (h : 0 < j) (k : q (.int (i % j)) M) : Wp (modD (.int i) (.int j) M) q := wp_ev (if_pos h) k
theorem wp_fdivI {i j : Int} {q : QE} (h : 0 < j ∧ j < 1073741824) (k : q (.int (i / j)) M) : Wp (fdivD (.int i) (.int j) M) q := wp_ev (if_pos h) k
theorem wp_mulI {i j : Int} {q : QE} (h : (-(2 ^ 64) < i ∧ i < 2 ^ 64) ∨ (-(2 ^ 64) < j ∧ j < 2 ^ 64)) (k : q (.int (i * j)) M) : Wp (mulD (.int i) (.int j) M) q := wp_ev (if_pos h) k
theorem wp_eqI {b : Bool} {i j : Int} {q : QE} (k : q (.bl (xor b (i == j))) M) : Wp (eqD b (.int i) (.int j) M) q := wp_ok k
theorem wp_eqS {b : Bool} {i j : Str} {q : QE} (k : q (.bl (xor b (i == j))) M) : Wp (eqD b (.str i) (.str j) M) q := wp_ok k
theorem wp_isi {ds : List Dv} {x : Dv} {M1 : Mem} {q : QE} (h : isiD ds M = some (x, M1)) (k : q x M1) : Wp (isiD ds M) q := wp_ev h k
theorem wp_len {ds : List Dv} {x : Dv} {M1 : Mem} {q : QE} (h : lenE ds M = some (x, M1)) (k : q x M1) : Wp (lenE ds M) q := wp_ev h k
theorem wp_intd {ds : List Dv} {x : Dv} {M1 : Mem} {q : QE} (h : intD ds M = some (x, M1)) (k : q x M1) : Wp (intD ds M) q := wp_ev h k
theorem wp_ixT {xs : List Dv} {i : Int} {x : Dv} {q : QE} (h : atI xs i = some x) (k : q x M) : Wp (ixE (.tup xs) (.int i) M) q := wp_ev (by unfold ixE ixD; simp only [h]) k
theorem wp_ixR {xs : List Dv} {i : Int} {x : Dv} {q : QE} (h : atI xs i = some x) (k : q x M) : Wp (ixE (.rol xs) (.int i) M) q := wp_ev (by unfold ixE ixD; simp only [h]) k
theorem wp_ixL {n : Nat} {xs : List Dv} {i : Int} {x : Dv} {q : QE} (hm : M[n]? = some (.lst xs)) (h : atI xs i = some x) (k : q x M) : Wp (ixE (.loc n) (.int i) M) q := wp_ev (by unfold ixE ixD; simp only [hm, h]) k
theorem wp_lenL {n : Nat} {xs : List Dv} {q : QE} (hm : M[n]? = some (.lst xs)) (k : q (.int xs.length) M) : Wp (lenE [.loc n] M) q := wp_ev (by unfold lenE lenD itemsD; simp only [hm]) k
theorem wp_tupL {n : Nat} {xs : List Dv} {q : QE} (hm : M[n]? = some (.lst xs)) (k : q (.tup xs) M) : Wp (tupD [.loc n] M) q := wp_ev (by unfold tupD; simp only [hm]) k
theorem wp_append {n : Nat} {xs : List Dv} {x : Dv} {q : QE} (hm : M[n]? = some (.lst xs)) (h : xs.length < sizeLine) (k : q .non (M.set n (.lst (xs ++ [x])))) : Wp (appendD (.loc n) [x] M) q := wp_ev (by unfold appendD; simp only [hm, if_pos h]) k
theorem ty_lst {n : Nat} {xs : List Dv} (hm : M[n]? = some (.lst xs)) : isTy "list" (.loc n) M = true := by unfold isTy; simp only [hm]; rfl
theorem wp_all {n : Nat} {xs : List Dv} {bs : List Bool} {q : QE} (hm : M[n]? = some (.lst xs)) (h : blsD xs = some bs) (k : q (.bl (bs.all id)) M) : Wp (allD [.loc n] M) q := wp_ev (by unfold allD; simp only [hm, h]) k
theorem wp_any {n : Nat} {xs : List Dv} {bs : List Bool} {q : QE} (hm : M[n]? = some (.lst xs)) (h : blsD xs = some bs) (k : q (.bl (bs.any id)) M) : Wp (anyD [.loc n] M) q := wp_ev (by unfold anyD; simp only [hm, h]) k
theorem bls_all : ∀ {xs : List Dv}, (∀ x ∈ xs, x = .bl true) → blsD xs = some (List.replicate xs.length true)
  | [], _ => rfl
  | x :: xs, h => by
    have e := h x (by simp)
    subst e
    unfold blsD
    rw [bls_all fun y hy => h y (by simp [hy])]; rfl
theorem wp_src {qi : Src → Mem → Prop} {fa : FE} (h : Wp (fa env M) fun d M1 => ∃ src, srcOf M1 d = some src ∧ qi src M1) : Wp (fSrc fa env M) qi := wp_bnd (h.go fun d M1 ⟨s, e, k⟩ => by
  show Wp (match srcOf M1 d with | some s => some (s, M1) | none => none) _
  rw [e]; exact wp_ok k)
theorem wp_rng1 {qi : Src → Mem → Prop} {fa : FE} (h : Wp (fa env M) fun d M1 => ∃ j : Int, d = .int j ∧ (-(2 ^ 62) ≤ j ∧ j < 2 ^ 62) ∧ qi (srcR 0 j.toNat) M1) : Wp (fRng1 fa env M) qi := wp_bnd (h.go fun d M1 ⟨j, e, h1, k⟩ => by
  subst e
  show Wp (if _ then _ else _) _
  rw [if_pos h1]; exact wp_ok k)
theorem wp_gN {i : Nat} (h : qe (env.set i (some d)) M) : Wp (gN i d env M) qe := wp_ok h
theorem wp_gsNil (h : qe env M) : Wp (gsNil [] env M) qe := wp_ok h
theorem wp_gsCons {f : FG} {g : FGs} {ds : List Dv} (h : Wp (f d env M) fun e1 M1 => Wp (g ds e1 M1) qe) : Wp (gsCons f g (d :: ds) env M) qe := wp_bnd h
theorem wp_gT {n : Nat} {g h : FGs} {xs : List Dv} (hn : xs.length = n) (k : Wp (g xs env M) qe) : Wp (gOr (gT n g) (gL n h) (.tup xs) env M) qe := by
  obtain ⟨e, M1, e1, k⟩ := k
  exact ⟨e, M1, by unfold gOr gT; simp only [if_pos hn, e1], k⟩
theorem wp_gPr {n : Nat} {g h : FGs} {xs : List Dv} (hn : xs.length = n) (k : Wp (g xs env M) qe) : Wp (gOr (gT n g) (gL n h) (.pr xs) env M) qe := by
  obtain ⟨e, M1, e1, k⟩ := k
  exact ⟨e, M1, by unfold gOr gT; simp only [if_pos hn, e1], k⟩
theorem wp_gL {m n : Nat} {g h : FGs} {xs : List Dv} (hm : M[m]? = some (.lst xs)) (hn : xs.length = n) (k : Wp (h xs env M) qe) : Wp (gOr (gT n g) (gL n h) (.loc m) env M) qe := by
  obtain ⟨e, M1, e1, k⟩ := k
  exact ⟨e, M1, by unfold gOr gT gL; simp only [hm, if_pos hn, e1], k⟩
theorem wp_gS (h : Wp (fo env M) fun o M1 => Wp (fi env M1) fun i M2 => ∃ M3, setE o i d M2 = some M3 ∧ qe env M3) : Wp (gSE fo fi d env M) qe := wp_bnd (h.go fun o M1 k => wp_bnd (k.go fun i M2 ⟨M3, e, k⟩ => by
  show Wp (match setE o i d M2 with | some M3 => some (env, M3) | none => none) _
  rw [e]; exact wp_ok k))
/-- o[j] = v -/
theorem ixN_n {n j : Nat} (hj : j < n) : ixN n (j : Int) = some j := by
  unfold ixN
  rw [if_pos (by omega), if_pos (by omega)]; simp
theorem atI_n {α : Type} {xs : List α} {j : Nat} {x : α} (h : xs[j]? = some x) : atI xs (j : Int) = some x := by
  unfold atI
  rw [ixN_n (List.getElem?_eq_some_iff.mp h).1]; exact h
theorem set_i {n j : Nat} {k : Int} {xs : List Dv} {v : Dv} (hm : M[n]? = some (.lst xs)) (hj : ixN xs.length k = some j) : setE (.loc n) (.int k) v M = some (M.set n (.lst (xs.set j v))) := by
  unfold setE setD
  simp only [hm, hj]
theorem set_at {n j : Nat} {xs : List Dv} {v : Dv} (hm : M[n]? = some (.lst xs)) (hj : j < xs.length) : setE (.loc n) (.int (j : Nat)) v M = some (M.set n (.lst (xs.set j v))) := by
  unfold setE setD
  simp only [hm, ixN_n hj]
end
/-! ### loops -/
def kLoop (I : En → Mem → Prop) (Q : QS) : QS := fun fl M => match fl with
  | .nx e => I e M
  | .ct e => I e M
  | .bk e => Q (.nx e) M
  | .rt d => Q (.rt d) M
section
variable {env : En} {M : Mem} {g : FG} {f : FS} {it : Stp} {Q : QS}
theorem kl_nx {I : En → Mem → Prop} {e : En} (h : I e M) : kLoop I Q (.nx e) M := h
theorem kl_ct {I : En → Mem → Prop} {e : En} (h : I e M) : kLoop I Q (.ct e) M := h
theorem kl_rt {I : En → Mem → Prop} {d : Dv} (h : Q (.rt d) M) : kLoop I Q (.rt d) M := h
theorem kl_bk {I : En → Mem → Prop} {e : En} (h : Q (.nx e) M) : kLoop I Q (.bk e) M := h
theorem wp_loop (I : Nat → En → Mem → Prop) (n : Nat) (hgo : ∀ i env M, i < n → I i env M → ∃ d, it i M = some (some d) ∧ Wp (g d env M) fun e1 M1 => Wp (f e1 M1) (kLoop (I (i + 1)) Q))
    (hend : ∀ env M, I n env M → it n M = some none ∧ Q (.nx env) M) : ∀ (k i : Nat) (env : En) (M : Mem), k + i = n → I i env M → Wp (loopF it g f k i env M) Q
  | 0, i, env, M, e, h => by
    have : i = n := by omega
    subst this
    obtain ⟨h1, h2⟩ := hend env M h
    show Wp (match it i M with | some none => some (Fl.nx env, M) | _ => none) Q
    rw [h1]; exact wp_ok h2
  | k + 1, i, env, M, e, h => by
    obtain ⟨d, h1, h2⟩ := hgo i env M (by omega) h
    unfold loopF
    simp only [h1]
    refine wp_bnd (h2.go fun e1 M1 h2 => wp_bnd (h2.go fun fl M2 h2 => ?_))
    cases fl with
    | nx e => exact wp_loop I n hgo hend k (i + 1) e M2 (by omega) h2
    | ct e => exact wp_loop I n hgo hend k (i + 1) e M2 (by omega) h2
    | bk e => exact wp_ok h2
    | rt d => exact wp_ok h2
theorem wp_for {fi : FI} (I : Nat → En → Mem → Prop) (h : Wp (fi env M) fun src M1 => I 0 env M1 ∧
      (∀ i env M, i < src.many → I i env M → ∃ d, src.stp i M = some (some d) ∧ Wp (g d env M) fun e1 M1 => Wp (f e1 M1) (kLoop (I (i + 1)) Q)) ∧
      ∀ env M, I src.many env M → src.stp src.many M = some none ∧ Q (.nx env) M) : Wp (fFor fi g f env M) Q :=
  wp_bnd (h.go fun src M1 ⟨h0, h1, h2⟩ => wp_loop I src.many h1 h2 src.many 0 env M1 (by omega) h0)
/-- while: I m: at most m turns are left -/
theorem wp_whileI {c : FT} (I : Nat → En → Mem → Prop) (h : ∀ m env M, I m env M → Wp (c env M) fun b M1 => match b with
      | true => Wp (f env M1) (kLoop (fun e M => ∃ m', m' < m ∧ I m' e M) Q)
      | false => Q (.nx env) M1) : ∀ (k m : Nat) (env : En) (M : Mem), m < k → I m env M → Wp (whileF c f k env M) Q
  | 0, m, env, M, e, h => by omega
  | k + 1, m, env, M, e, hi => by
    unfold whileF
    refine wp_bnd ((h m env M hi).go fun b M1 h1 => ?_)
    cases b with
    | false => exact wp_ok h1
    | true =>
      refine wp_bnd (Wp.go h1 fun fl M2 h2 => ?_)
      cases fl with
      | nx e => obtain ⟨m', l, h2⟩ := h2; exact wp_whileI I h k m' e M2 (by omega) h2
      | ct e => obtain ⟨m', l, h2⟩ := h2; exact wp_whileI I h k m' e M2 (by omega) h2
      | bk e => exact wp_ok h2
      | rt d => exact wp_ok h2
/-- comprehensions: I i acc M, the new list's cell aside -/
theorem wp_compI {ft : FT} {fe : FE} {e0 : En} {n : Nat} {q : Mem → Prop} (I : Nat → List Dv → Mem → Prop) (m : Nat) (hI : ∀ i acc M, I i acc M → M[n]? = some (.lst acc))
    (hgo : ∀ i acc M, i < m → I i acc M → ∃ d, it i M = some (some d) ∧ Wp (g d e0 M) fun e1 M1 => Wp (ft e1 M1) fun b M2 => match b with
      | true => Wp (fe e1 M2) fun y M3 => ∃ acc', M3[n]? = some (.lst acc') ∧ acc'.length < sizeLine ∧ I (i + 1) (acc' ++ [y]) (M3.set n (.lst (acc' ++ [y])))
      | false => I (i + 1) acc M2)
    (hend : ∀ acc M, I m acc M → it m M = some none ∧ q M) : ∀ (k i : Nat) (acc : List Dv) (M : Mem), k + i = m → I i acc M → ∃ M', compF it g ft fe e0 n k i M = some M' ∧ q M'
  | 0, i, acc, M, e, h => by
    have : i = m := by omega
    subst this
    obtain ⟨h1, h2⟩ := hend acc M h
    refine ⟨M, ?_, h2⟩
    show (match it i M with | some none => some M | _ => none) = _
    rw [h1]
  | k + 1, i, acc, M, e, h => by
    obtain ⟨d, h1, e1, M1, h2, b, M2, h3, h4⟩ := hgo i acc M (by omega) h
    unfold compF
    simp only [h1, h2]
    cases b with
    | false =>
      simp only [h3]
      exact wp_compI I m hI hgo hend k (i + 1) acc M2 (by omega) h4
    | true =>
      obtain ⟨y, M3, h5, acc', h6, h7, h8⟩ := h4
      simp only [h3, h5, h6, if_pos h7]
      exact wp_compI I m hI hgo hend k (i + 1) _ _ (by omega) h8
end
/-! ### what stays in the memory -/
/-- the cells of M stay, but those of W -/
abbrev Kp (W : Nat → Prop) (M M' : Mem) : Prop := M.length ≤ M'.length ∧ ∀ n, n < M.length → ¬ W n → M'[n]? = M[n]?
abbrev NoW : Nat → Prop := fun _ => False
section
variable {W W' : Nat → Prop} {M M1 M2 : Mem} {n : Nat} {o : Ob}
theorem Kp.refl : Kp W M M := ⟨Nat.le_refl _, fun _ _ _ => rfl⟩
theorem Kp.trans (a : Kp W M M1) (b : Kp W' M1 M2) (h : ∀ n, n < M.length → W' n → W n) : Kp W M M2 :=
  ⟨Nat.le_trans a.1 b.1, fun n hn w => (b.2 n (Nat.lt_of_lt_of_le hn a.1) fun x => w (h n hn x)).trans (a.2 n hn w)⟩
theorem Kp.tr (a : Kp W M M1) (b : Kp W M1 M2) : Kp W M M2 := a.trans b fun _ _ h => h
theorem Kp.trN (a : Kp W M M1) (b : Kp NoW M1 M2) : Kp W M M2 := a.trans b fun _ _ h => h.elim
theorem Kp.app (L : Mem) : Kp W M (M ++ L) := ⟨by simp, fun n hn _ => by rw [List.getElem?_append_left hn]⟩
theorem Kp.set (h : n < M.length → W n) : Kp W M (M.set n o) := ⟨by simp, fun m hm w => by
  rw [List.getElem?_set_ne fun e => ?_]
  subst e; exact w (h hm)⟩
theorem Kp.at (k : Kp W M M1) (h : M[n]? = some o) (w : ¬ W n) : M1[n]? = some o := (k.2 n (List.getElem?_eq_some_iff.mp h).1 w).trans h
theorem lt_of {x : Ob} (h : M[n]? = some x) : n < M.length := (List.getElem?_eq_some_iff.mp h).1
theorem at_new : (M ++ [o])[M.length]? = some o := by simp
theorem at_set {x : Ob} (h : M[n]? = some x) : (M.set n o)[n]? = some o := by
  rw [List.getElem?_set, if_pos rfl, if_pos (lt_of h)]
theorem at_set_ne {m : Nat} {x : Ob} (h : M[m]? = some x) (e : n ≠ m) : (M.set n o)[m]? = some x := by
  rw [List.getElem?_set_ne e]; exact h
theorem at_app {x : Ob} {L : Mem} (h : M[n]? = some x) : (M ++ L)[n]? = some x := by
  rw [List.getElem?_append_left (lt_of h)]; exact h
end
inductive All2 {α β : Type} (R : α → β → Prop) : List α → List β → Prop
  | nil : All2 R [] []
  | cons {x : α} {y : β} {xs : List α} {ys : List β} : R x y → All2 R xs ys → All2 R (x :: xs) (y :: ys)
section
variable {α β : Type} {R : α → β → Prop}
theorem All2.length : ∀ {xs : List α} {ys : List β}, All2 R xs ys → xs.length = ys.length
  | _, _, .nil => rfl
  | _, _, .cons _ t => by rw [List.length_cons, List.length_cons, t.length]
theorem All2.snoc {x : α} {y : β} (h : R x y) : ∀ {xs : List α} {ys : List β}, All2 R xs ys → All2 R (xs ++ [x]) (ys ++ [y])
  | _, _, .nil => .cons h .nil
  | _, _, .cons r t => .cons r (All2.snoc h t)
theorem All2.map_eq {φ : α → β} : ∀ {xs : List α} {ys : List β}, All2 (fun x y => y = φ x) xs ys → ys = xs.map φ
  | _, _, .nil => rfl
  | _, _, .cons r t => by rw [r, All2.map_eq t]; rfl
theorem All2.right {P : β → Prop} (h : ∀ x y, R x y → P y) : ∀ {xs : List α} {ys : List β}, All2 R xs ys → ∀ y ∈ ys, P y
  | _, _, .nil => fun y hy => by simp at hy
  | _, _, .cons r t => fun y hy => by
    rcases List.mem_cons.mp hy with e | hy
    · subst e; exact h _ _ r
    · exact All2.right h t y hy
end
/-- [e for x in xs]: over items that stay -/
theorem wp_lc {fi : FI} {fe : FE} {env : En} {M : Mem} {q : QE} {v : Nat} {vs : List Nat} (R : Dv → Dv → Prop) (W : Nat → Prop) (J : Mem → Prop)
    (h : Wp (fi env M) fun src M1 => ∃ xs : List Dv, src.many = xs.length ∧ xs.length ≤ sizeLine ∧ ¬ W M1.length ∧ (∀ i M', Kp W M1 M' → J M' → i ≤ xs.length → src.stp i M' = some xs[i]?) ∧
      J (M1 ++ [.lst []]) ∧ (∀ M' acc acc', J M' → M'[M1.length]? = some (.lst acc) → J (M'.set M1.length (.lst acc'))) ∧
      (∀ x ∈ xs, ∀ M', Kp W M1 M' → M1.length < M'.length → J M' → Wp (fe ((wipeE env vs).set v (some x)) M') fun y M3 => R x y ∧ Kp W M' M3 ∧ J M3) ∧
      ∀ ys M', All2 R xs ys → Kp W M1 M' → J M' → M'[M1.length]? = some (.lst ys) → q (.loc M1.length) M') : Wp (fComp fi vs (gN v) fYes fe env M) q := by
  refine wp_bnd (h.go fun src M1 ⟨xs, h1, h2, h3, h4, h5, h6, h7, h8⟩ => ?_)
  have key : ∃ M', compF src.stp (gN v) fYes fe (wipeE env vs) M1.length src.many 0 (M1 ++ [.lst []]) = some M' ∧ q (.loc M1.length) M' := by
    refine wp_compI (fun i acc M' => i ≤ xs.length ∧ All2 R (xs.take i) acc ∧ Kp W M1 M' ∧ J M' ∧ M'[M1.length]? = some (.lst acc)) src.many (fun i acc M' hh => hh.2.2.2.2) ?_ ?_ src.many 0 [] _ (by omega) ⟨Nat.zero_le _, .nil, .app _, h5, at_new⟩
    · rintro i acc M' hi ⟨a0, a1, a2, a3, a4⟩
      have hx : xs[i]? = some (xs[i]'(by omega)) := List.getElem?_eq_getElem (by omega)
      refine ⟨xs[i]'(by omega), by rw [h4 i M' a2 a3 a0, hx], wp_gN (wp_ok ?_)⟩
      refine (h7 _ (List.getElem_mem _) M' a2 (lt_of a4) a3).go fun y M3 ⟨b1, b2, b3⟩ => ?_
      have c1 : M3[M1.length]? = some (.lst acc) := b2.at a4 h3
      have c2 := a1.length
      rw [List.length_take] at c2
      refine ⟨acc, c1, by omega, by omega, ?_, (a2.tr b2).trans (Kp.set (W := fun n => n = M1.length) fun _ => rfl) ?_, h6 M3 acc _ b3 c1, at_set c1⟩
      · have e : xs.take (i + 1) = xs.take i ++ [xs[i]'(by omega)] := by
          rw [List.take_add_one, hx]; rfl
        rw [e]
        exact a1.snoc b1
      · intro n hn w
        omega
    · rintro acc M' ⟨a0, a1, a2, a3, a4⟩
      refine ⟨?_, ?_⟩
      · rw [h4 _ M' a2 a3 a0, h1]
        simp
      · rw [h1, List.take_length] at a1
        exact h8 acc M' a1 a2 a3 a4
  obtain ⟨M', e, k⟩ := key
  show Wp (match compF _ _ _ _ _ _ _ _ _ with | some M2 => some (Dv.loc M1.length, M2) | none => none) q
  rw [e]
  exact wp_ok k
theorem wp_lstA {env : En} {M : Mem} {fr : FA} {q : QE} (h : Wp (fr env M) (kLe fun ds M1 => ∀ n M2, n = M1.length → M2[n]? = some (.lst ds) → Kp NoW M1 M2 → M2.length = n + 1 → q (.loc n) M2)) : Wp (fLst fr env M) q :=
  wp_lst (h.go fun ds M1 k => ⟨k.1, k.2 _ _ rfl at_new (.app _) (by simp)⟩)
/-- [e for x in xs if t], nothing else written -/
theorem wp_lcF {fi : FI} {ft : FT} {fe : FE} {env : En} {M : Mem} {q : QE} {v : Nat} {vs : List Nat} (p : Dv → Bool) (φ : Dv → Dv)
    (h : Wp (fi env M) fun src M1 => ∃ xs : List Dv, src.many = xs.length ∧ xs.length ≤ sizeLine ∧ (∀ i M', Kp NoW M1 M' → i ≤ xs.length → src.stp i M' = some xs[i]?) ∧
      (∀ x ∈ xs, ∀ M', Kp NoW M1 M' → Wp (ft ((wipeE env vs).set v (some x)) M') fun b M2 => b = p x ∧ Kp NoW M' M2) ∧
      (∀ x ∈ xs, ∀ M', Kp NoW M1 M' → Wp (fe ((wipeE env vs).set v (some x)) M') fun y M3 => y = φ x ∧ Kp NoW M' M3) ∧
      ∀ M', Kp NoW M1 M' → M'[M1.length]? = some (.lst ((xs.filter p).map φ)) → q (.loc M1.length) M') : Wp (fComp fi vs (gN v) ft fe env M) q := by
  refine wp_bnd (h.go fun src M1 ⟨xs, h1, h2, h4, h6, h7, h8⟩ => ?_)
  have key : ∃ M', compF src.stp (gN v) ft fe (wipeE env vs) M1.length src.many 0 (M1 ++ [.lst []]) = some M' ∧ q (.loc M1.length) M' := by
    refine wp_compI (fun i acc M' => i ≤ xs.length ∧ acc = ((xs.take i).filter p).map φ ∧ Kp NoW M1 M' ∧ M'[M1.length]? = some (.lst acc)) src.many (fun i acc M' hh => hh.2.2.2) ?_ ?_ src.many 0 [] _ (by omega) ⟨Nat.zero_le _, rfl, .app _, at_new⟩
    · rintro i acc M' hi ⟨a0, a1, a2, a4⟩
      have hx : xs[i]? = some (xs[i]'(by omega)) := List.getElem?_eq_getElem (by omega)
      have e : xs.take (i + 1) = xs.take i ++ [xs[i]'(by omega)] := by
        rw [List.take_add_one, hx]; rfl
      refine ⟨xs[i]'(by omega), by rw [h4 i M' a2 a0, hx], wp_gN ?_⟩
      refine (h6 _ (List.getElem_mem _) M' a2).go fun b M2 ⟨b1, b2⟩ => ?_
      cases hb : p (xs[i]'(by omega)) with
      | false =>
        rw [b1, hb]
        refine ⟨by omega, ?_, a2.tr b2, b2.at a4 id⟩
        rw [e, List.filter_append, List.filter_cons, if_neg (by rw [hb]; decide)]; simpa using a1
      | true =>
        rw [b1, hb]
        refine (h7 _ (List.getElem_mem _) M2 (a2.tr b2)).go fun y M3 ⟨c1, c2⟩ => ?_
        have d1 : M3[M1.length]? = some (.lst acc) := c2.at (b2.at a4 id) id
        refine ⟨acc, d1, ?_, by omega, ?_, ((a2.tr b2).tr c2).trans (Kp.set (W := fun n => n = M1.length) fun _ => rfl) ?_, at_set d1⟩
        · rw [a1, List.length_map]
          have := List.length_filter_le p (xs.take i)
          rw [List.length_take] at this
          omega
        · rw [e, List.filter_append, List.filter_cons, if_pos hb, a1, c1]; simp
        · intro n hn w; omega
    · rintro acc M' ⟨a0, a1, a2, a4⟩
      refine ⟨by rw [h4 _ M' a2 a0, h1]; simp, ?_⟩
      rw [h1, List.take_length] at a1
      subst a1
      exact h8 M' a2 a4
  obtain ⟨M', e, k⟩ := key
  show Wp (match compF _ _ _ _ _ _ _ _ _ with | some M2 => some (Dv.loc M1.length, M2) | none => none) q
  rw [e]
  exact wp_ok k
/-- [e for x in xs], nothing else written -/
theorem wp_lcP {fi : FI} {fe : FE} {env : En} {M : Mem} {q : QE} {v : Nat} {vs : List Nat} (φ : Dv → Dv)
    (h : Wp (fi env M) fun src M1 => ∃ xs : List Dv, src.many = xs.length ∧ xs.length ≤ sizeLine ∧ (∀ i M', Kp NoW M1 M' → i ≤ xs.length → src.stp i M' = some xs[i]?) ∧
      (∀ x ∈ xs, ∀ M', Kp NoW M1 M' → Wp (fe ((wipeE env vs).set v (some x)) M') fun y M3 => y = φ x ∧ Kp NoW M' M3) ∧
      ∀ M', Kp NoW M1 M' → M'[M1.length]? = some (.lst (xs.map φ)) → q (.loc M1.length) M') : Wp (fComp fi vs (gN v) fYes fe env M) q :=
  wp_lcF (fun _ => true) φ (h.go fun src M1 ⟨xs, h1, h2, h3, h4, h5⟩ => ⟨xs, h1, h2, h3, fun x hx M' k => wp_ok ⟨rfl, .refl⟩, h4, fun M' k e => h5 M' k (by rw [e, List.filter_eq_self.mpr (fun _ _ => rfl)])⟩)
theorem wp_mulT {xs : List Dv} {k : Nat} {M : Mem} {q : QE} (h : xs.length * k ≤ 16777216) (h2 : k < 1000000) (c : q (.tup (List.replicate k xs).flatten) M) : Wp (mulD (.tup xs) (.int (k : Nat)) M) q := by
  refine wp_ev ?_ c
  have e : ((k : Nat) : Int).toNat = k := Int.toNat_natCast k
  unfold mulD
  simp only [e]
  rw [if_pos ⟨by omega, by omega, Nat.le_trans h (by decide)⟩]
theorem wp_mulL {n : Nat} {xs : List Dv} {k : Nat} {M : Mem} {q : QE} (hm : M[n]? = some (.lst xs)) (h : xs.length * k ≤ 16777216) (h2 : k < 1000000)
    (c : ∀ m M2, m = M.length → M2[m]? = some (.lst (List.replicate k xs).flatten) → Kp NoW M M2 → M2.length = m + 1 → q (.loc m) M2) : Wp (mulD (.loc n) (.int (k : Nat)) M) q := by
  refine wp_ev (a := .loc M.length) (M' := M ++ [.lst (List.replicate k xs).flatten]) ?_ (c _ _ rfl at_new (.app _) (by simp))
  have e : ((k : Nat) : Int).toNat = k := Int.toNat_natCast k
  unfold mulD
  simp only [hm, e]
  rw [if_pos ⟨by omega, by omega, Nat.le_trans h (by decide)⟩]
theorem wp_extend {n m : Nat} {xs ys : List Dv} {M : Mem} {q : QE} (hn : M[n]? = some (.lst xs)) (hm : M[m]? = some (.lst ys)) (h : xs.length + ys.length ≤ 16777216) (k : q .non (M.set n (.lst (xs ++ ys)))) : Wp (extendD (.loc n) [.loc m] M) q := by
  refine wp_ev ?_ k
  unfold extendD
  simp only [hn, hm]
  rw [if_pos (Nat.le_trans h (by decide))]
theorem wp_addT {xs ys : List Dv} {M : Mem} {q : QE} (h : xs.length + ys.length ≤ 16777216) (k : q (.tup (xs ++ ys)) M) : Wp (addD (.tup xs) (.tup ys) M) q := by
  refine wp_ev ?_ k
  unfold addD
  simp only
  rw [if_pos (Nat.le_trans h (by decide))]
theorem wp_lcI {fi : FI} {fe : FE} {env : En} {M : Mem} {q : QE} {v : Nat} {vs : List Nat} (I : Nat → Nat → List Dv → Mem → Prop)
    (h : Wp (fi env M) fun src M1 => (∀ i acc M', I M1.length i acc M' → M'[M1.length]? = some (.lst acc)) ∧ I M1.length 0 [] (M1 ++ [.lst []]) ∧
      (∀ i acc M', i < src.many → I M1.length i acc M' → ∃ d, src.stp i M' = some (some d) ∧ Wp (fe ((wipeE env vs).set v (some d)) M') fun y M3 => ∃ acc', M3[M1.length]? = some (.lst acc') ∧ acc'.length < sizeLine ∧ I M1.length (i + 1) (acc' ++ [y]) (M3.set M1.length (.lst (acc' ++ [y])))) ∧
      ∀ acc M', I M1.length src.many acc M' → src.stp src.many M' = some none ∧ q (.loc M1.length) M') : Wp (fComp fi vs (gN v) fYes fe env M) q := by
  refine wp_bnd (h.go fun src M1 ⟨h0, h1, h2, h3⟩ => ?_)
  obtain ⟨M', e, k⟩ := wp_compI (it := src.stp) (g := gN v) (ft := fYes) (fe := fe) (e0 := wipeE env vs) (n := M1.length) (q := fun M' => q (.loc M1.length) M') (I M1.length) src.many h0
    (fun i acc M' hi hh => by
      obtain ⟨d, e, w⟩ := h2 i acc M' hi hh
      exact ⟨d, e, wp_gN (wp_ok w)⟩) h3 src.many 0 [] _ (by omega) h1
  show Wp (match compF _ _ _ _ _ _ _ _ _ with | some M2 => some (Dv.loc M1.length, M2) | none => none) q
  rw [e]
  exact wp_ok k
theorem wp_enum {env : En} {M : Mem} {qi : Src → Mem → Prop} {fa : FE} (h : Wp (fa env M) fun d M1 => ∃ src, srcE M1 d = some src ∧ qi src M1) : Wp (fEnum fa env M) qi := wp_bnd (h.go fun d M1 ⟨s, e, k⟩ => by
  show Wp (match srcE M1 d with | some s => some (s, M1) | none => none) _
  rw [e]; exact wp_ok k)
theorem ins_ok {c n : Nat} {fs : List (Str × Dv)} {m : Str} {M : Mem} (h : M[n]? = some (.ins c fs)) (hl : (fs.lookup m).isNone = true) : isIns c m (.loc n) M = true := by
  unfold isIns
  simp only [h, hl, beq_self_eq_true, Bool.and_self]
theorem wp_inL {b : Bool} {n : Nat} {x : Dv} {ys : List Dv} {M : Mem} {q : QE} (h : M[n]? = some (.lst ys)) (hx : flatD x = true) (hy : ys.all flatD = true) (k : q (.bl (xor b (ys.any fun y => eqF y x))) M) : Wp (inE b x (.loc n) M) q := by
  refine wp_ev ?_ k
  unfold inE inD
  cases x <;> simp_all [flatD]
theorem wp_indexL {n j : Nat} {x : Dv} {ys : List Dv} {M : Mem} {q : QE} (h : M[n]? = some (.lst ys)) (hx : flatD x = true) (hy : ys.all flatD = true) (hj : idxB (fun y => eqF y x) ys = some j) (k : q (.int (j : Nat)) M) : Wp (indexD (.loc n) [x] M) q := by
  refine wp_ev ?_ k
  unfold indexD
  simp only [h, hx, hy, Bool.and_self, if_true, hj]
theorem idxB_of {p : Dv → Bool} : ∀ {ys : List Dv}, ys.any p = true → ∃ j, idxB p ys = some j ∧ j < ys.length
  | [], h => by simp at h
  | y :: ys, h => by
    unfold idxB
    by_cases hp : p y = true
    · exact ⟨0, if_pos hp, by simp⟩
    · rw [if_neg hp]
      rw [List.any_cons, Bool.or_eq_true] at h
      obtain ⟨j, e, hj⟩ := idxB_of (h.resolve_left hp)
      exact ⟨j + 1, by rw [e], by simp; omega⟩
theorem cut_take {xs : List Dv} {c : Nat} (h : c ≤ xs.length) : cutD xs none (some (c : Nat)) = xs.take c := by
  unfold cutD
  have e1 : HT.sIx xs.length 0 none = 0 := rfl
  have e2 : HT.sIx xs.length xs.length (some (c : Nat)) = c := by
    rw [HT.sIx_nat]; omega
  rw [e1, e2]; simp
def stpL (n : Nat) : Stp := fun i M => match M[n]? with
  | some (.lst xs) => some xs[i]?
  | _ => none
theorem stpL_at {n i : Nat} {M : Mem} {xs : List Dv} (h : M[n]? = some (.lst xs)) : stpL n i M = some xs[i]? := by
  unfold stpL; simp only [h]
theorem src_loc {n : Nat} {M : Mem} {xs : List Dv} (h : M[n]? = some (.lst xs)) : srcOf M (.loc n) = some ⟨xs.length, stpL n⟩ := by
  unfold srcOf; simp only [h]; rfl
theorem wp_slR {xs : List Dv} {lo hi : Option Int} {M : Mem} {q : QE} (k : ∀ n M2, n = M.length → M2[n]? = some (.lst (cutD xs lo hi)) → Kp NoW M M2 → M2.length = n + 1 → q (.loc n) M2) : Wp (slD (.rol xs) lo hi M) q :=
  wp_ev (M' := M ++ [.lst (cutD xs lo hi)]) rfl (k _ _ rfl at_new (.app _) (by simp))
theorem wp_slT {xs : List Dv} {lo hi : Option Int} {M : Mem} {q : QE} (k : q (.tup (cutD xs lo hi)) M) : Wp (slD (.tup xs) lo hi M) q := wp_ok k
theorem cut_mem {xs : List Dv} {lo hi : Option Int} {x : Dv} (h : x ∈ cutD xs lo hi) : x ∈ xs := List.mem_of_mem_drop (List.mem_of_mem_take h)
def intsR (n : Nat) : List Dv := (List.range n).map fun j => Dv.int (j : Nat)
theorem intsR_len {n : Nat} : (intsR n).length = n := by simp [intsR]
theorem rng_go {n i : Nat} {M : Mem} (h : i < n) : (srcR 0 n).stp i M = some (some (.int (i : Nat))) := by
  show (if i < n then some (some (Dv.int (0 + i))) else some none) = _
  rw [if_pos h, Int.zero_add]
theorem rng_end {n : Nat} {M : Mem} : (srcR 0 n).stp n M = some none := by
  show (if n < n then some (some (Dv.int (0 + n))) else some none) = _
  rw [if_neg (Nat.lt_irrefl _)]
theorem rng_stp {n i : Nat} {M : Mem} : (srcR 0 n).stp i M = some (intsR n)[i]? := by
  by_cases h : i < n
  · rw [rng_go h]; simp [intsR, h]
  · show (if i < n then some (some (Dv.int (0 + i))) else some none) = _
    rw [if_neg h, List.getElem?_eq_none (by simpa [intsR] using h)]
theorem rgD_n {n : Nat} : rgD 0 (n : Nat) = intsR n := by
  unfold rgD intsR
  simp
theorem wp_tupR {env : En} {M : Mem} {fa : FE} {q : QE} (h : Wp (fa env M) fun d M1 => ∃ n : Nat, d = .int (n : Nat) ∧ n ≤ 1000 ∧ q (.tup (intsR n)) M1) : Wp (fTupR (fRg1 fa) env M) q := by
  obtain ⟨d, M1, e, n, rfl, hn, k⟩ := h
  refine ⟨_, M1, ?_, k⟩
  have hk : rgOk 0 (n : Nat) = true := by
    unfold rgOk
    rw [decide_eq_true_eq]
    omega
  unfold fTupR fRg1 bnd
  simp only [e, hk, if_true, rgD_n]
theorem wp_rngN {env : En} {M : Mem} {qi : Src → Mem → Prop} {fa : FE} (h : Wp (fa env M) fun d M1 => ∃ n : Nat, d = .int (n : Nat) ∧ n < 2 ^ 62 ∧ qi (srcR 0 n) M1) : Wp (fRng1 fa env M) qi := wp_rng1 (h.go fun d M1 ⟨n, e, h1, k⟩ => ⟨n, e, by omega, by simpa using k⟩)
end Zl

/-! text Y2 -/
namespace Zl
open PySem L2 PySem.Spec PyProof.Rows

/-! ## the same rules, each with a name for what it asks -/
section
variable {env e : En} {M : Mem} {d x : Dv} {fa fb : FE} {fr : FA} {q : QE} {Q : QS} {n k c np : Nat} {xs : List Dv} {fs : List (Str × Dv)} {fld m : Str} {F : FF}
def kFld (c : Nat) (fld : Str) (q : QE) : QE := fun d M => ∃ k fs x, d = .loc k ∧ M[k]? = some (.ins c fs) ∧ fs.lookup fld = some x ∧ q x M
theorem wq_fld (h : Wp (fa env M) (kFld c fld q)) : Wp (fFld c fld fa env M) q := wp_fld h
theorem k_fld (h : M[k]? = some (.ins c fs)) (hl : fs.lookup fld = some x) (hq : q x M) : kFld c fld q (.loc k) M := ⟨k, fs, x, rfl, h, hl, hq⟩
def kPut (c : Nat) (fld : Str) (y : Dv) (q : Mem → Prop) : QE := fun d M => ∃ k fs, d = .loc k ∧ M[k]? = some (.ins c fs) ∧ fs.length < 1000 ∧ q (M.set k (.ins c (putD fld y fs)))
theorem wq_put (h : Wp (fa env M) fun y M1 => Wp (fb env M1) (kPut c fld y fun M' => Q (.nx env) M')) : Wp (fPut c fld fb fa env M) Q := wp_put h
theorem k_put {y : Dv} {q : Mem → Prop} (h : M[k]? = some (.ins c fs)) (hl : fs.length.blt 1000 = true) (hq : q (M.set k (.ins c (putD fld y fs)))) : kPut c fld y q (.loc k) M := ⟨k, fs, rfl, h, by simpa using Nat.lt_of_lt_of_le (Nat.le_of_ble_eq_true hl) (Nat.le_refl _), hq⟩
def kIns (c : Nat) (m : Str) (q : QE) : QE := fun d M => isIns c m d M = true ∧ q d M
theorem k_ins (h : M[k]? = some (.ins c fs)) (hl : (fs.lookup m).isNone = true) (hq : q (.loc k) M) : kIns c m q (.loc k) M := ⟨ins_ok h hl, hq⟩
theorem wq_meth (h : Wp (fa env M) (kIns c m fun d M1 => Wp (fr env M1) (kLen (np - 1) fun ds M2 => 0 < np ∧ Wp (F (d :: ds) M2) q))) : Wp (fMeth c m np F fa fr env M) q :=
  wp_meth (h.go fun d M1 ⟨h1, h2⟩ => ⟨h1, h2.go fun ds M2 ⟨h3, h4, h5⟩ => ⟨by rw [List.length_cons, h3]; omega, h5⟩⟩)
def kPos (np : Nat) (P : Prop) : Prop := 0 < np ∧ P
theorem wq_meth' (h : Wp (fa env M) (kIns c m fun d M1 => Wp (fr env M1) (kLen (np - 1) fun ds M2 => kPos np (Wp (F (d :: ds) M2) q)))) : Wp (fMeth c m np F fa fr env M) q := wq_meth h
theorem k_pos {P : Prop} (h : P) : kPos (np + 1) P := ⟨by omega, h⟩
def kNon (q : Mem → Prop) : QE := fun d M => d = .non ∧ q M
theorem k_non {q : Mem → Prop} (h : q M) : kNon q .non M := ⟨rfl, h⟩
theorem wq_make (h : Wp (fr env M) (kLen (np - 1) fun ds M1 => kPos np (Wp (F (.loc M1.length :: ds) (M1 ++ [.ins c []])) (kNon fun M2 => q (.loc M1.length) M2)))) : Wp (fMake c np F fr env M) q :=
  wp_make (h.go fun ds M1 ⟨h1, h2, h3⟩ => ⟨by omega, h3.go fun d M2 ⟨h4, h5⟩ => ⟨h4, h5⟩⟩)
def kTy (T : String) (q : QE) : QE := fun d M => isTy T d M = true ∧ q d M
theorem k_tyL (h : M[n]? = some (.lst xs)) (hq : q (.loc n) M) : kTy "list" q (.loc n) M := ⟨ty_lst h, hq⟩
theorem k_tyT (hq : q (.tup xs) M) : kTy "tuple" q (.tup xs) M := ⟨rfl, hq⟩
theorem wq_m {T : String} {h : FM} (k : Wp (fa env M) (kTy T fun d M1 => Wp (fr env M1) fun ds M2 => Wp (h d ds M2) q)) : Wp (fM T h fa fr env M) q := wp_m k
def kSrc (qi : Src → Mem → Prop) : QE := fun d M => ∃ src, srcOf M d = some src ∧ qi src M
theorem wq_src {qi : Src → Mem → Prop} (h : Wp (fa env M) (kSrc qi)) : Wp (fSrc fa env M) qi := wp_src h
theorem k_srcL {qi : Src → Mem → Prop} (h : M[n]? = some (.lst xs)) (hq : qi ⟨xs.length, stpL n⟩ M) : kSrc qi (.loc n) M := ⟨_, src_loc h, hq⟩
def stpC (xs : List Dv) : Stp := fun i _ => some xs[i]?
theorem k_srcT {qi : Src → Mem → Prop} (hq : qi ⟨xs.length, stpC xs⟩ M) : kSrc qi (.tup xs) M := ⟨_, rfl, hq⟩
theorem k_srcR {qi : Src → Mem → Prop} (hq : qi ⟨xs.length, stpC xs⟩ M) : kSrc qi (.rol xs) M := ⟨_, rfl, hq⟩
def kInt (q : Int → Mem → Prop) : QE := fun d M => ∃ i, d = .int i ∧ q i M
theorem k_int {i : Int} {q : Int → Mem → Prop} (h : q i M) : kInt q (.int i) M := ⟨i, rfl, h⟩
theorem wq_P {qo : Option Int → Mem → Prop} (h : Wp (fa env M) (kInt fun i M1 => qo (some i) M1)) : Wp (fP fa env M) qo := wp_P h
def kNat (q : Nat → Mem → Prop) : QE := fun d M => ∃ n : Nat, d = .int (n : Nat) ∧ q n M
theorem k_nat {q : Nat → Mem → Prop} (h : q n M) : kNat q (.int (n : Nat)) M := ⟨n, rfl, h⟩
theorem k_natL {l : Nat} {q : Nat → Mem → Prop} (h : q l M) : kNat q (.int (OfNat.ofNat l : Int)) M := ⟨l, rfl, h⟩
theorem k_natI {i : Int} {q : Nat → Mem → Prop} (n : Nat) (e : i = n) (h : q n M) : kNat q (.int i) M := ⟨n, by rw [e], h⟩
def kSml (n : Nat) (P : Prop) : Prop := n < 2 ^ 62 ∧ P
theorem k_sml {P : Prop} (h : n < 2 ^ 62) (p : P) : kSml n P := ⟨h, p⟩
theorem wq_rng {qi : Src → Mem → Prop} (h : Wp (fa env M) (kNat fun n M1 => kSml n (qi (srcR 0 n) M1))) : Wp (fRng1 fa env M) qi := wp_rngN h
def kSet (o i d : Dv) (q : Mem → Prop) (M : Mem) : Prop := ∃ M3, setE o i d M = some M3 ∧ q M3
theorem wq_gS {fo fi : FE} {qe : En → Mem → Prop} (h : Wp (fo env M) fun o M1 => Wp (fi env M1) fun i M2 => kSet o i d (fun M3 => qe env M3) M2) : Wp (gSE fo fi d env M) qe := wp_gS h
theorem k_set {j : Nat} {i : Int} {q : Mem → Prop} (hm : M[n]? = some (.lst xs)) (hj : ixN xs.length i = some j) (h : q (M.set n (.lst (xs.set j d)))) : kSet (.loc n) (.int i) d q M := ⟨_, set_i hm hj, h⟩
theorem k_setN {j : Nat} {q : Mem → Prop} (hm : M[n]? = some (.lst xs)) (hj : j < xs.length) (h : q (M.set n (.lst (xs.set j d)))) : kSet (.loc n) (.int (j : Nat)) d q M := ⟨_, set_at hm hj, h⟩
/-- for x in a tuple or a locked list: turn by turn -/
theorem stpC_go {i : Nat} (h : xs[i]? = some d) : stpC xs i M = some (some d) := by unfold stpC; rw [h]
theorem stpC_end : stpC xs xs.length M = some none := by unfold stpC; simp
theorem stpL_go {i : Nat} (hm : M[n]? = some (.lst xs)) (h : xs[i]? = some d) : stpL n i M = some (some d) := by rw [stpL_at hm, h]
theorem stpL_end (hm : M[n]? = some (.lst xs)) : stpL n xs.length M = some none := by rw [stpL_at hm]; simp
end
theorem Kp.tl {W W' : Nat → Prop} {M M1 M2 : Mem} (b : Kp W' M1 M2) (a : Kp W M M1) (h : ∀ n, n < M.length → W' n → W n) : Kp W M M2 := a.trans b h
theorem Kp.setl {W : Nat → Prop} {M M1 : Mem} {n : Nat} {o : Ob} (a : Kp W M M1) (h : n < M.length → W n) : Kp W M (M1.set n o) := a.trans (Kp.set (W := fun m => m = n) fun _ => rfl) fun m hm e => by subst e; exact h hm
theorem Kp.appl {W : Nat → Prop} {M M1 : Mem} {L : Mem} (a : Kp W M M1) : Kp W M (M1 ++ L) := a.trans (Kp.app (W := fun _ => False) _) fun _ _ h => h.elim
theorem wp_inT {b : Bool} {x : Dv} {ys : List Dv} {M : Mem} {q : QE} (h : inE b x (.tup ys) M = some (.bl (xor b (ys.any fun y => eqF y x)), M)) (k : q (.bl (xor b (ys.any fun y => eqF y x))) M) : Wp (inE b x (.tup ys) M) q := wp_ev h k
end Zl
namespace Zl
open PySem L2 PySem.Spec PyProof.Rows
def kNew (o : Ob) (q : Nat → Mem → Prop) (M : Mem) : Prop := ∀ n M2, n = M.length → M2[n]? = some o → Kp NoW M M2 → M2.length = n + 1 → q n M2
theorem k_new {o : Ob} {q : Nat → Mem → Prop} {M : Mem} (h : ∀ n M2, n = M.length → M2[n]? = some o → Kp NoW M M2 → M2.length = n + 1 → q n M2) : kNew o q M := h
theorem wq_lst {env : En} {M : Mem} {fr : FA} {q : QE} (h : Wp (fr env M) (kLe fun ds M1 => kNew (.lst ds) (fun n M2 => q (.loc n) M2) M1)) : Wp (fLst fr env M) q := wp_lstA h
theorem wq_make2 {env : En} {M : Mem} {fr : FA} {q : QE} {c np : Nat} {F : FF} (h : Wp (fr env M) (kLen (np - 1) fun ds M1 => kPos np (kNew (.ins c []) (fun n M2 => Wp (F (.loc n :: ds) M2) (kNon fun M3 => q (.loc n) M3)) M1))) : Wp (fMake c np F fr env M) q :=
  wq_make (h.go fun ds M1 ⟨h1, h2, h3⟩ => ⟨h1, h2, h3 _ _ rfl at_new (.app _) (by simp)⟩)
def kMulN (n : Nat) (P : Prop) : Prop := n ≤ 1000 ∧ P
theorem wq_mulL {n : Nat} {xs : List Dv} {k : Nat} {M : Mem} {q : QE} (hm : M[n]? = some (.lst xs)) (h1 : xs.length ≤ 16) (h2 : k ≤ 100000)
    (c : kNew (.lst (List.replicate k xs).flatten) (fun m M2 => q (.loc m) M2) M) : Wp (mulD (.loc n) (.int (k : Nat)) M) q :=
  wp_mulL hm (Nat.le_trans (Nat.mul_le_mul h1 h2) (by decide)) (by omega) c
theorem wq_slR {xs : List Dv} {lo hi : Option Int} {M : Mem} {q : QE} (k : kNew (.lst (cutD xs lo hi)) (fun n M2 => q (.loc n) M2) M) : Wp (slD (.rol xs) lo hi M) q := wp_slR k
theorem wq_slL {m : Nat} {xs : List Dv} {lo hi : Option Int} {M : Mem} {q : QE} (hm : M[m]? = some (.lst xs)) (k : kNew (.lst (cutD xs lo hi)) (fun n M2 => q (.loc n) M2) M) : Wp (slD (.loc m) lo hi M) q := by
  refine wp_ev (a := .loc M.length) (M' := M ++ [.lst (cutD xs lo hi)]) ?_ (k _ _ rfl at_new (.app _) (by simp))
  unfold slD
  simp only [hm]
/-- a comprehension that writes nothing else -/
def kLc (fe : FE) (ft : FT) (env : En) (v : Nat) (vs : List Nat) (p : Dv → Bool) (φ : Dv → Dv) (q : QE) : Src → Mem → Prop := fun src M1 => ∃ xs : List Dv, src.many = xs.length ∧ xs.length ≤ sizeLine ∧ (∀ i M', Kp NoW M1 M' → i ≤ xs.length → src.stp i M' = some xs[i]?) ∧
      (∀ x ∈ xs, ∀ M', Kp NoW M1 M' → Wp (ft ((wipeE env vs).set v (some x)) M') fun b M2 => b = p x ∧ Kp NoW M' M2) ∧
      (∀ x ∈ xs, ∀ M', Kp NoW M1 M' → Wp (fe ((wipeE env vs).set v (some x)) M') fun y M3 => y = φ x ∧ Kp NoW M' M3) ∧
      ∀ M', Kp NoW M1 M' → M'[M1.length]? = some (.lst ((xs.filter p).map φ)) → q (.loc M1.length) M'
theorem wq_lcF {fi : FI} {ft : FT} {fe : FE} {env : En} {M : Mem} {q : QE} {v : Nat} {vs : List Nat} (p : Dv → Bool) (φ : Dv → Dv) (h : Wp (fi env M) (kLc fe ft env v vs p φ q)) : Wp (fComp fi vs (gN v) ft fe env M) q := wp_lcF p φ h
def kMap (fe : FE) (env : En) (v : Nat) (vs : List Nat) (φ : Dv → Dv) (q : QE) : Src → Mem → Prop := fun src M1 => ∃ xs : List Dv, src.many = xs.length ∧ xs.length ≤ sizeLine ∧ (∀ i M', Kp NoW M1 M' → i ≤ xs.length → src.stp i M' = some xs[i]?) ∧
      (∀ x ∈ xs, ∀ M', Kp NoW M1 M' → Wp (fe ((wipeE env vs).set v (some x)) M') fun y M3 => y = φ x ∧ Kp NoW M' M3) ∧
      ∀ n M', n = M1.length → M1.length < M'.length → Kp NoW M1 M' → M'[n]? = some (.lst (xs.map φ)) → q (.loc n) M'
theorem wq_map {fi : FI} {fe : FE} {env : En} {M : Mem} {q : QE} {v : Nat} {vs : List Nat} (φ : Dv → Dv) (h : Wp (fi env M) (kMap fe env v vs φ q)) : Wp (fComp fi vs (gN v) fYes fe env M) q :=
  wp_lcP φ (h.go fun src M1 ⟨xs, h1, h2, h3, h4, h5⟩ => ⟨xs, h1, h2, h3, h4, fun M' k g => h5 _ _ rfl (lt_of g) k g⟩)
section
variable {fe : FE} {env : En} {v n : Nat} {vs : List Nat} {φ : Dv → Dv} {q : QE} {xs : List Dv} {M : Mem}
theorem k_mapT (hl : xs.length ≤ sizeLine) (he : ∀ x ∈ xs, ∀ M', Kp NoW M M' → Wp (fe ((wipeE env vs).set v (some x)) M') fun y M3 => y = φ x ∧ Kp NoW M' M3)
    (hq : ∀ n M', n = M.length → M.length < M'.length → Kp NoW M M' → M'[n]? = some (.lst (xs.map φ)) → q (.loc n) M') : kMap fe env v vs φ q ⟨xs.length, stpC xs⟩ M := ⟨xs, rfl, hl, fun _ _ _ _ => rfl, he, hq⟩
theorem k_mapL {m : Nat} (hm : M[m]? = some (.lst xs)) (hl : xs.length ≤ sizeLine) (he : ∀ x ∈ xs, ∀ M', Kp NoW M M' → Wp (fe ((wipeE env vs).set v (some x)) M') fun y M3 => y = φ x ∧ Kp NoW M' M3)
    (hq : ∀ n M', n = M.length → M.length < M'.length → Kp NoW M M' → M'[n]? = some (.lst (xs.map φ)) → q (.loc n) M') : kMap fe env v vs φ q ⟨xs.length, stpL m⟩ M := ⟨xs, rfl, hl, fun _ M' k _ => stpL_at (k.at hm id), he, hq⟩
theorem k_mapR {m : Nat} (hl : m ≤ sizeLine) (he : ∀ j : Nat, j < m → ∀ M', Kp NoW M M' → Wp (fe ((wipeE env vs).set v (some (.int (j : Nat)))) M') fun y M3 => y = φ (.int (j : Nat)) ∧ Kp NoW M' M3)
    (hq : ∀ n M', n = M.length → M.length < M'.length → Kp NoW M M' → M'[n]? = some (.lst ((intsR m).map φ)) → q (.loc n) M') : kMap fe env v vs φ q (srcR 0 m) M :=
  ⟨intsR m, intsR_len.symm, by rw [intsR_len]; exact hl, fun _ _ _ _ => rng_stp, fun x hx => by
    unfold intsR at hx
    obtain ⟨j, hj, rfl⟩ := List.mem_map.mp hx
    exact he j (List.mem_range.mp hj), hq⟩
end
theorem size_le {n : Nat} (h : n ≤ 16000000) : n ≤ sizeLine := Nat.le_trans h (by decide)
theorem size_lt {n : Nat} (h : n ≤ 16000000) : n < sizeLine := Nat.lt_of_le_of_lt h (by decide)
/-- a for over a range -/
theorem wq_forR {env : En} {M : Mem} {g : FG} {f : FS} {Q : QS} {n : Nat} (I : Nat → En → Mem → Prop) (h0 : I 0 env M) (h1 : ∀ i env M, i < n → I i env M → Wp (g (.int (i : Nat)) env M) fun e1 M1 => Wp (f e1 M1) (kLoop (I (i + 1)) Q)) (h2 : ∀ env M, I n env M → Q (.nx env) M) :
    I 0 env M ∧ (∀ i env M, i < (srcR 0 n).many → I i env M → ∃ d, (srcR 0 n).stp i M = some (some d) ∧ Wp (g d env M) fun e1 M1 => Wp (f e1 M1) (kLoop (I (i + 1)) Q)) ∧ ∀ env M, I (srcR 0 n).many env M → (srcR 0 n).stp (srcR 0 n).many M = some none ∧ Q (.nx env) M :=
  ⟨h0, fun i env M hi hh => ⟨_, rng_go hi, h1 i env M hi hh⟩, fun env M hh => ⟨rng_end, h2 env M hh⟩⟩
/-- a for over a tuple -/
theorem wq_forT {env : En} {M : Mem} {g : FG} {f : FS} {Q : QS} {xs : List Dv} (I : Nat → En → Mem → Prop) (h0 : I 0 env M) (h1 : ∀ i d env M, xs[i]? = some d → I i env M → Wp (g d env M) fun e1 M1 => Wp (f e1 M1) (kLoop (I (i + 1)) Q)) (h2 : ∀ env M, I xs.length env M → Q (.nx env) M) :
    I 0 env M ∧ (∀ i env M, i < (Src.mk xs.length (stpC xs)).many → I i env M → ∃ d, (Src.mk xs.length (stpC xs)).stp i M = some (some d) ∧ Wp (g d env M) fun e1 M1 => Wp (f e1 M1) (kLoop (I (i + 1)) Q)) ∧ ∀ env M, I (Src.mk xs.length (stpC xs)).many env M → (Src.mk xs.length (stpC xs)).stp (Src.mk xs.length (stpC xs)).many M = some none ∧ Q (.nx env) M :=
  ⟨h0, fun i env M hi hh => ⟨xs[i]'hi, stpC_go (M := M) (List.getElem?_eq_getElem hi), h1 i _ env M (List.getElem?_eq_getElem hi) hh⟩, fun env M hh => ⟨stpC_end (M := M), h2 env M hh⟩⟩
/-- a for over a list that stays -/
theorem wq_forL {env : En} {M : Mem} {g : FG} {f : FS} {Q : QS} {xs : List Dv} {m : Nat} (I : Nat → En → Mem → Prop) (hm : ∀ i env M, I i env M → M[m]? = some (.lst xs)) (h0 : I 0 env M) (h1 : ∀ i d env M, xs[i]? = some d → I i env M → Wp (g d env M) fun e1 M1 => Wp (f e1 M1) (kLoop (I (i + 1)) Q)) (h2 : ∀ env M, I xs.length env M → Q (.nx env) M) :
    I 0 env M ∧ (∀ i env M, i < (Src.mk xs.length (stpL m)).many → I i env M → ∃ d, (Src.mk xs.length (stpL m)).stp i M = some (some d) ∧ Wp (g d env M) fun e1 M1 => Wp (f e1 M1) (kLoop (I (i + 1)) Q)) ∧ ∀ env M, I (Src.mk xs.length (stpL m)).many env M → (Src.mk xs.length (stpL m)).stp (Src.mk xs.length (stpL m)).many M = some none ∧ Q (.nx env) M :=
  ⟨h0, fun i env M hi hh => ⟨xs[i]'hi, stpL_go (hm i env M hh) (List.getElem?_eq_getElem hi), h1 i _ env M (List.getElem?_eq_getElem hi) hh⟩, fun env M hh => ⟨stpL_end (hm _ env M hh), h2 env M hh⟩⟩
section
variable {M : Mem} {k c n : Nat} {fs : List (Str × Dv)} {fld : Str} {y d : Dv} {xs : List Dv} {q : Mem → Prop}
/-- a cell written: the memory behind it by what is known -/
def kWr (n : Nat) (o : Ob) (q : Mem → Prop) (M : Mem) : Prop := ∀ M', M'[n]? = some o → Kp (fun m => m = n) M M' → M'.length = M.length → q M'
theorem k_wr {o : Ob} (h : ∀ M', M'[n]? = some o → Kp (fun m => m = n) M M' → M'.length = M.length → q M') : kWr n o q M := h
theorem k_putO (h : M[k]? = some (.ins c fs)) (hl : fs.length.blt 1000 = true) (hq : kWr k (.ins c (putD fld y fs)) q M) : kPut c fld y q (.loc k) M := k_put h hl (hq _ (at_set h) (.set fun _ => rfl) (by simp))
theorem k_setO {j : Nat} {i : Int} (hm : M[n]? = some (.lst xs)) (hj : ixN xs.length i = some j) (h : kWr n (.lst (xs.set j d)) q M) : kSet (.loc n) (.int i) d q M := k_set hm hj (h _ (at_set hm) (.set fun _ => rfl) (by simp))
theorem k_setNO {j : Nat} (hm : M[n]? = some (.lst xs)) (hj : j < xs.length) (h : kWr n (.lst (xs.set j d)) q M) : kSet (.loc n) (.int (j : Nat)) d q M := k_setN hm hj (h _ (at_set hm) (.set fun _ => rfl) (by simp))
theorem wq_append {x : Dv} {q : QE} (hm : M[n]? = some (.lst xs)) (h : xs.length < sizeLine) (k : kWr n (.lst (xs ++ [x])) (fun M' => q .non M') M) : Wp (appendD (.loc n) [x] M) q := wp_append hm h (k _ (at_set hm) (.set fun _ => rfl) (by simp))
end
end Zl

/-! text Y3 -/
namespace Zl
open PySem L2 PySem.Spec PyProof.Rows

/-! ## turn by turn, without an invariant -/
section
variable {env : En} {M : Mem} {g : FG} {f : FS} {it : Stp} {Q : QS} {k i n : Nat} {d : Dv} {ft : FT} {fe : FE} {fi : FI} {e0 : En} {q : QE} {vs : List Nat}
def kTurn (it : Stp) (g : FG) (f : FS) (k i : Nat) (Q : QS) : QS := fun fl M => match fl with
  | .nx e => Wp (loopF it g f k i e M) Q
  | .ct e => Wp (loopF it g f k i e M) Q
  | .bk e => Q (.nx e) M
  | .rt d => Q (.rt d) M
theorem kt_nx {e : En} (h : Wp (loopF it g f k i e M) Q) : kTurn it g f k i Q (.nx e) M := h
theorem kt_ct {e : En} (h : Wp (loopF it g f k i e M) Q) : kTurn it g f k i Q (.ct e) M := h
theorem kt_bk {e : En} (h : Q (.nx e) M) : kTurn it g f k i Q (.bk e) M := h
theorem kt_rt (h : Q (.rt d) M) : kTurn it g f k i Q (.rt d) M := h
theorem wu_go (h : it i M = some (some d)) (w : Wp (g d env M) fun e1 M1 => Wp (f e1 M1) (kTurn it g f k (i + 1) Q)) : Wp (loopF it g f (k + 1) i env M) Q := by
  unfold loopF
  simp only [h]
  refine wp_bnd (w.go fun e1 M1 w => wp_bnd (w.go fun fl M2 w => ?_))
  cases fl with
  | nx e => exact w
  | ct e => exact w
  | bk e => exact wp_ok w
  | rt d => exact wp_ok w
theorem wu_end (h : it i M = some none) (w : Q (.nx env) M) : Wp (loopF it g f k i env M) Q := by
  cases k with
  | zero => unfold loopF; simp only [h]; exact wp_ok w
  | succ k => unfold loopF; simp only [h]; exact wp_ok w
theorem wu_for (h : Wp (fi env M) fun src M1 => Wp (loopF src.stp g f src.many 0 env M1) Q) : Wp (fFor fi g f env M) Q := wp_bnd h
/-- a comprehension's turns -/
def Wc (r : Option Mem) (q : Mem → Prop) : Prop := ∃ M, r = some M ∧ q M
def kAcc (n : Nat) (y : Dv) (q : Mem → Prop) (M : Mem) : Prop := ∃ acc, M[n]? = some (.lst acc) ∧ acc.length < sizeLine ∧ kWr n (.lst (acc ++ [y])) q M
theorem k_acc {acc : List Dv} {y : Dv} {q : Mem → Prop} (h : M[n]? = some (.lst acc)) (hl : acc.length.blt 1000 = true) (w : kWr n (.lst (acc ++ [y])) q M) : kAcc n y q M :=
  ⟨acc, h, size_lt (by have := Nat.le_of_ble_eq_true hl; omega), w⟩
theorem wuc_go {qm : Mem → Prop} (h : it i M = some (some d)) (w : Wp (g d e0 M) fun e1 M1 => Wp (ft e1 M1) (kIf (fun M2 => bnd (fe e1 M2) fun y M3 => some (some y, M3)) (fun M2 => some (none, M2)) fun o M3 => match o with
      | some y => kAcc n y (fun M4 => Wc (compF it g ft fe e0 n k (i + 1) M4) qm) M3
      | none => Wc (compF it g ft fe e0 n k (i + 1) M3) qm)) : Wc (compF it g ft fe e0 n (k + 1) i M) qm := by
  obtain ⟨e1, M1, h1, b, M2, h2, w⟩ := w
  unfold compF
  simp only [h, h1]
  cases b with
  | false =>
    obtain ⟨o, M3, h3, w⟩ := w
    cases h3
    simp only [h2]
    exact w
  | true =>
    obtain ⟨o, M3, h3, w⟩ := w
    obtain ⟨y, M4, h4, h5⟩ := bnd_some h3
    cases h5
    obtain ⟨acc, w1, w2, w3⟩ := w
    simp only [h2, h4, w1, if_pos w2]
    exact w3 _ (at_set w1) (.set fun _ => rfl) (by simp)
theorem wuc_map {qm : Mem → Prop} (h : it i M = some (some d)) (w : Wp (g d e0 M) fun e1 M1 => Wp (fe e1 M1) fun y M3 => kAcc n y (fun M4 => Wc (compF it g fYes fe e0 n k (i + 1) M4) qm) M3) : Wc (compF it g fYes fe e0 n (k + 1) i M) qm :=
  wuc_go h (w.go fun e1 M1 w => wp_ok (by
    show Wp (bnd _ _) _
    exact wp_bnd (w.go fun y M3 w => wp_ok w)))
theorem wuc_end {qm : Mem → Prop} (h : it i M = some none) (w : qm M) : Wc (compF it g ft fe e0 n k i M) qm := by
  cases k with
  | zero => exact ⟨M, by unfold compF; simp only [h], w⟩
  | succ k => exact ⟨M, by unfold compF; simp only [h], w⟩
theorem wu_comp (h : Wp (fi env M) fun src M1 => kNew (.lst []) (fun n M2 => Wc (compF src.stp g ft fe (wipeE env vs) n src.many 0 M2) fun M3 => q (.loc n) M3) M1) : Wp (fComp fi vs g ft fe env M) q := by
  refine wp_bnd (h.go fun src M1 h => ?_)
  obtain ⟨M3, e, w⟩ := h _ _ rfl at_new (.app _) (by simp)
  show Wp (match compF _ _ _ _ _ _ _ _ _ with | some M2 => some (Dv.loc M1.length, M2) | none => none) q
  rw [e]; exact wp_ok w
end
section
variable {env : En} {M : Mem} {g : FG} {f : FS} {it : Stp} {Q : QS} {k m i n : Nat} {d : Dv} {fe : FE} {e0 : En}
theorem wv_map {qm : Mem → Prop} (hk : m = k + 1) (h : it i M = some (some d)) (w : Wp (g d e0 M) fun e1 M1 => Wp (fe e1 M1) fun y M3 => kAcc n y (fun M4 => Wc (compF it g fYes fe e0 n k (i + 1) M4) qm) M3) : Wc (compF it g fYes fe e0 n m i M) qm := by
  subst hk; exact wuc_map h w
theorem wv_go (hk : m = k + 1) (h : it i M = some (some d)) (w : Wp (g d env M) fun e1 M1 => Wp (f e1 M1) (kTurn it g f k (i + 1) Q)) : Wp (loopF it g f m i env M) Q := by
  subst hk; exact wu_go h w
end
/-! ## == by what is read -/
theorem wq_eqD {b : Bool} {x y : Dv} {M : Mem} {Q : QE} {p q : PyData} (hx : rd M deep x = some p) (hy : rd M deep y = some q) (sp : SeqAt.shaped p = true) (sq : SeqAt.shaped q = true)
    (k : Q (.bl (xor b (PyData.eqv p q))) M) : Wp (eqD b x y M) Q := by
  unfold eqD
  split
  · cases hx; cases hy
    refine wp_ok ?_
    exact k
  · cases hx; cases hy
    refine wp_ok ?_
    exact k
  · simp only [hx, hy]
    rw [if_pos ⟨sp, sq⟩]
    exact wp_ok k
theorem rd_loc {M : Mem} {n k : Nat} {xs : List Dv} {ps : List PyData} (h : M[k]? = some (.lst xs)) (hx : rdL (rd M n) xs = some ps) : rd M (n + 1) (.loc k) = some (.list ps) := by
  show (match M[k]? with | some (.lst xs) => (match rdL (rd M n) xs with | some ps => some (PyData.list ps) | none => none) | _ => none) = _
  rw [h]; simp only [hx]
theorem rd_tup {M : Mem} {n : Nat} {xs : List Dv} {ps : List PyData} (hx : rdL (rd M n) xs = some ps) : rd M (n + 1) (.tup xs) = some (.tuple ps) := by
  show (match rdL (rd M n) xs with | some ps => some (PyData.tuple ps) | none => none) = _
  rw [hx]
theorem rdL_nil {f : Dv → Option PyData} : rdL f [] = some [] := rfl
theorem rdL_cons {f : Dv → Option PyData} {x : Dv} {xs : List Dv} {p : PyData} {ps : List PyData} (h : f x = some p) (hs : rdL f xs = some ps) : rdL f (x :: xs) = some (p :: ps) := by
  unfold rdL; rw [h, hs]
theorem rd_bls {M : Mem} {n : Nat} : ∀ bs : List Bool, rdL (rd M n) (bs.map Dv.bl) = some (bs.map .bool)
  | [] => rfl
  | b :: bs => by
    rw [List.map_cons, List.map_cons]
    exact rdL_cons (by cases n <;> rfl) (rd_bls bs)
/-! ## for, by an invariant -/
def kFor (I : Nat → En → Mem → Prop) (g : FG) (f : FS) (env : En) (Q : QS) : Src → Mem → Prop := fun src M1 => I 0 env M1 ∧
      (∀ i env M, i < src.many → I i env M → ∃ d, src.stp i M = some (some d) ∧ Wp (g d env M) fun e1 M1 => Wp (f e1 M1) (kLoop (I (i + 1)) Q)) ∧
      ∀ env M, I src.many env M → src.stp src.many M = some none ∧ Q (.nx env) M
section
variable {env : En} {M : Mem} {g : FG} {f : FS} {Q : QS} {n m : Nat} {fi : FI} {xs : List Dv} {I : Nat → En → Mem → Prop}
theorem wq_for (I : Nat → En → Mem → Prop) (h : Wp (fi env M) (kFor I g f env Q)) : Wp (fFor fi g f env M) Q := wp_for I h
theorem k_forR (h0 : I 0 env M) (h1 : ∀ i env M, i < n → I i env M → Wp (g (.int (i : Nat)) env M) fun e1 M1 => Wp (f e1 M1) (kLoop (I (i + 1)) Q)) (h2 : ∀ env M, I n env M → Q (.nx env) M) : kFor I g f env Q (srcR 0 n) M := wq_forR I h0 h1 h2
theorem k_forT (h0 : I 0 env M) (h1 : ∀ i d env M, xs[i]? = some d → I i env M → Wp (g d env M) fun e1 M1 => Wp (f e1 M1) (kLoop (I (i + 1)) Q)) (h2 : ∀ env M, I xs.length env M → Q (.nx env) M) : kFor I g f env Q ⟨xs.length, stpC xs⟩ M := wq_forT I h0 h1 h2
theorem k_forL (hm : ∀ i env M, I i env M → M[m]? = some (.lst xs)) (h0 : I 0 env M) (h1 : ∀ i d env M, xs[i]? = some d → I i env M → Wp (g d env M) fun e1 M1 => Wp (f e1 M1) (kLoop (I (i + 1)) Q)) (h2 : ∀ env M, I xs.length env M → Q (.nx env) M) : kFor I g f env Q ⟨xs.length, stpL m⟩ M := wq_forL I hm h0 h1 h2
end
/-- both ways meet -/
theorem k_join {α : Type} {f g : Mem → Option (α × Mem)} {Q : α → Mem → Prop} {b : Bool} {M : Mem} (P : α → Mem → Prop) (h1 : b = true → Wp (f M) P) (h2 : b = false → Wp (g M) P) (h : ∀ a M', P a M' → Q a M') : kIf f g Q b M := by
  cases b with
  | true => exact (h1 rfl).go h
  | false => exact (h2 rfl).go h
end Zl

/-! text Y4 -/
namespace Zl
open PySem L2 PySem.Spec PyProof.Rows
theorem wq_addL {m n : Nat} {xs ys : List Dv} {M : Mem} {q : QE} (hm : M[m]? = some (.lst xs)) (hn : M[n]? = some (.lst ys)) (hl : xs.length + ys.length ≤ 16000000)
    (c : kNew (.lst (xs ++ ys)) (fun k M2 => q (.loc k) M2) M) : Wp (addD (.loc m) (.loc n) M) q := by
  refine wp_ev (a := .loc M.length) (M' := M ++ [.lst (xs ++ ys)]) ?_ (c _ _ rfl at_new (.app _) (by simp))
  unfold addD
  simp only [hm, hn]
  rw [if_pos (size_le hl)]
theorem wq_addT {xs ys : List Dv} {M : Mem} {q : QE} (h : xs.length + ys.length ≤ 16000000) (k : q (.tup (xs ++ ys)) M) : Wp (addD (.tup xs) (.tup ys) M) q := wp_addT (Nat.le_trans h (by decide)) k
theorem wq_lstT {xs : List Dv} {M : Mem} {q : QE} (c : kNew (.lst xs) (fun k M2 => q (.loc k) M2) M) : Wp (lstD [.tup xs] M) q :=
  wp_ev (a := .loc M.length) (M' := M ++ [.lst xs]) rfl (c _ _ rfl at_new (.app _) (by simp))
theorem wq_lstL {n : Nat} {xs : List Dv} {M : Mem} {q : QE} (hm : M[n]? = some (.lst xs)) (c : kNew (.lst xs) (fun k M2 => q (.loc k) M2) M) : Wp (lstD [.loc n] M) q := by
  refine wp_ev (a := .loc M.length) (M' := M ++ [.lst xs]) ?_ (c _ _ rfl at_new (.app _) (by simp))
  unfold lstD itemsD
  simp only [hm]
/-! zip, enumerate -/
def kZip (qi : Src → Mem → Prop) (d : Dv) : QE := fun e M => ∃ src, srcZ M d e = some src ∧ qi src M
theorem wq_zip {env : En} {M : Mem} {qi : Src → Mem → Prop} {fa fb : FE} (h : Wp (fa env M) fun d M1 => Wp (fb env M1) (kZip qi d)) : Wp (fZip fa fb env M) qi :=
  wp_bnd (h.go fun d M1 h => wp_bnd (h.go fun e M2 ⟨s, e1, k⟩ => by
    show Wp (match srcZ M2 d e with | some s => some (s, M2) | none => none) _
    rw [e1]; exact wp_ok k))
def stpZ (xs ys : List Dv) : Stp := fun i _ => some (zipAt xs ys i)
theorem k_zipT {xs ys : List Dv} {M : Mem} {qi : Src → Mem → Prop} (h : qi ⟨min xs.length ys.length, stpZ xs ys⟩ M) : kZip qi (.tup xs) (.tup ys) M := ⟨_, rfl, h⟩
theorem zip_at {xs ys : List Dv} {i : Nat} {x y : Dv} (h : xs[i]? = some x) (h' : ys[i]? = some y) : zipAt xs ys i = some (.pr [x, y]) := by unfold zipAt; rw [h, h']
theorem zip_end {xs ys : List Dv} : zipAt xs ys (min xs.length ys.length) = none := by
  unfold zipAt
  by_cases h : xs.length ≤ ys.length
  · rw [Nat.min_eq_left h, List.getElem?_eq_none (Nat.le_refl _)]
  · rw [Nat.min_eq_right (by omega), List.getElem?_eq_none (l := ys) (Nat.le_refl _)]
    cases xs[ys.length]? <;> rfl
def kEnum (qi : Src → Mem → Prop) : QE := fun d M => ∃ src, srcE M d = some src ∧ qi src M
theorem wq_enum {env : En} {M : Mem} {qi : Src → Mem → Prop} {fa : FE} (h : Wp (fa env M) (kEnum qi)) : Wp (fEnum fa env M) qi := wp_enum h
def stpE (xs : List Dv) : Stp := fun i _ => if i ≤ xs.length then some (pairs xs i) else none
theorem k_enumT {xs : List Dv} {M : Mem} {qi : Src → Mem → Prop} (h : qi ⟨xs.length, stpE xs⟩ M) : kEnum qi (.tup xs) M := ⟨_, rfl, h⟩
theorem stpE_go {xs : List Dv} {i : Nat} {x : Dv} {M : Mem} (h : xs[i]? = some x) : stpE xs i M = some (some (.pr [.int (i : Nat), x])) := by
  have := (List.getElem?_eq_some_iff.mp h).1
  unfold stpE pairs
  rw [if_pos (by omega), h]; rfl
theorem stpE_end {xs : List Dv} {M : Mem} : stpE xs xs.length M = some none := by
  unfold stpE pairs
  rw [if_pos (Nat.le_refl _), List.getElem?_eq_none (Nat.le_refl _)]; rfl
theorem k_forE {env : En} {M : Mem} {g : FG} {f : FS} {Q : QS} {xs : List Dv} {I : Nat → En → Mem → Prop} (h0 : I 0 env M) (h1 : ∀ i d env M, xs[i]? = some d → I i env M → Wp (g (.pr [.int (i : Nat), d]) env M) fun e1 M1 => Wp (f e1 M1) (kLoop (I (i + 1)) Q)) (h2 : ∀ env M, I xs.length env M → Q (.nx env) M) : kFor I g f env Q ⟨xs.length, stpE xs⟩ M :=
  ⟨h0, fun i env M hi hh => ⟨_, stpE_go (M := M) (List.getElem?_eq_getElem hi), h1 i _ env M (List.getElem?_eq_getElem hi) hh⟩, fun env M hh => ⟨stpE_end (M := M), h2 env M hh⟩⟩
/-! ## comprehensions by any target: what each item gives -/
/-- [e for t in xs if c], nothing else written -/
theorem wq_lcG {fi : FI} {g : FG} {ft : FT} {fe : FE} {env : En} {M : Mem} {q : QE} {vs : List Nat} (p : Nat → Bool) (φ : Nat → Dv)
    (h : Wp (fi env M) fun src M1 => src.many ≤ 16000000 ∧ (∀ i M', Kp NoW M1 M' → i < src.many → ∃ d, src.stp i M' = some (some d) ∧ Wp (g d (wipeE env vs) M') fun e1 M2 => Wp (ft e1 M2) fun b M3 => b = p i ∧ Kp NoW M' M3 ∧ (p i = true → Wp (fe e1 M3) fun y M4 => y = φ i ∧ Kp NoW M3 M4)) ∧
      (∀ M', Kp NoW M1 M' → src.stp src.many M' = some none) ∧
      ∀ n M', n = M1.length → M1.length < M'.length → Kp NoW M1 M' → M'[n]? = some (.lst (((List.range src.many).filter p).map φ)) → q (.loc n) M') : Wp (fComp fi vs g ft fe env M) q := by
  refine wp_bnd (h.go fun src M1 ⟨h0, h1, h2, h3⟩ => ?_)
  have key : ∃ M', compF src.stp g ft fe (wipeE env vs) M1.length src.many 0 (M1 ++ [.lst []]) = some M' ∧ q (.loc M1.length) M' := by
    refine wp_compI (fun i acc M' => i ≤ src.many ∧ acc = ((List.range i).filter p).map φ ∧ Kp NoW M1 M' ∧ M'[M1.length]? = some (.lst acc)) src.many (fun i acc M' hh => hh.2.2.2) ?_ ?_ src.many 0 [] _ (by omega) ⟨Nat.zero_le _, rfl, .app _, at_new⟩
    · rintro i acc M' hi ⟨a0, a1, a2, a4⟩
      obtain ⟨d, e1, w⟩ := h1 i M' a2 hi
      refine ⟨d, e1, ?_⟩
      obtain ⟨env1, M2, w1, w⟩ := w
      refine ⟨env1, M2, w1, ?_⟩
      refine w.go fun b M3 ⟨b1, b2, b3⟩ => ?_
      have er : (List.range (i + 1)) = List.range i ++ [i] := List.range_succ
      cases hb : p i with
      | false =>
        rw [b1, hb]
        refine ⟨by omega, ?_, a2.tr b2, b2.at a4 id⟩
        rw [er, List.filter_append, List.filter_cons, if_neg (by rw [hb]; decide)]; simpa using a1
      | true =>
        rw [b1, hb]
        refine (b3 hb).go fun y M4 ⟨c1, c2⟩ => ?_
        have d1 : M4[M1.length]? = some (.lst acc) := c2.at (b2.at a4 id) id
        refine ⟨acc, d1, ?_, by omega, ?_, ((a2.tr b2).tr c2).trans (Kp.set (W := fun n => n = M1.length) fun _ => rfl) ?_, at_set d1⟩
        · rw [a1, List.length_map]
          have := List.length_filter_le p (List.range i)
          rw [List.length_range] at this
          exact size_lt (by omega)
        · rw [er, List.filter_append, List.filter_cons, if_pos hb, a1, c1]; simp
        · intro n hn w; omega
    · rintro acc M' ⟨a0, a1, a2, a4⟩
      refine ⟨h2 M' a2, ?_⟩
      subst a1
      exact h3 _ M' rfl (lt_of a4) a2 a4
  obtain ⟨M', e, k⟩ := key
  show Wp (match compF _ _ _ _ _ _ _ _ _ with | some M2 => some (Dv.loc M1.length, M2) | none => none) q
  rw [e]
  exact wp_ok k
end Zl

/-! text Y5 -/
namespace Zl
open PySem L2 PySem.Spec PyProof.Rows
/-! ## data that is small: depth at most k, weight at most n -/
structure Sm (k n : Nat) (p : PyData) : Prop where
  lay : p.canLay0 = true
  dep : p.depth ≤ k
  sho : p.showable = true
  dic : p.hasDict = false
  sht : p.leavesShort 12 = true
  blk : p.bulk ≤ n
structure SmA (k n : Nat) (ps : List PyData) : Prop where
  lay : PyData.canLayAll0 ps = true
  dep : PyData.depthAll ps ≤ k
  sho : PyData.showableAll ps = true
  dic : PyData.hasDictAll ps = false
  sht : PyData.leavesShortAll 12 ps = true
  blk : PyData.bulkAll ps ≤ n
section
variable {k n m : Nat} {p : PyData} {ps : List PyData}
theorem smA_nil : SmA k n [] := ⟨rfl, Nat.zero_le _, rfl, rfl, rfl, Nat.zero_le _⟩
theorem smA_cons (h : Sm k n p) (hs : SmA k m ps) : SmA k (n + 1 + m) (p :: ps) :=
  ⟨by unfold PyData.canLayAll0; rw [h.lay, hs.lay]; rfl, by unfold PyData.depthAll; exact Nat.max_le.mpr ⟨h.dep, hs.dep⟩, by unfold PyData.showableAll; rw [h.sho, hs.sho]; rfl,
    by unfold PyData.hasDictAll; rw [h.dic, hs.dic]; rfl, by unfold PyData.leavesShortAll; rw [h.sht, hs.sht]; rfl, by unfold PyData.bulkAll; have := h.blk; have := hs.blk; omega⟩
theorem SmA.mono {k' n' : Nat} (h : SmA k n ps) (hk : k ≤ k') (hn : n ≤ n') : SmA k' n' ps := ⟨h.lay, Nat.le_trans h.dep hk, h.sho, h.dic, h.sht, Nat.le_trans h.blk hn⟩
theorem Sm.mono {k' n' : Nat} (h : Sm k n p) (hk : k ≤ k') (hn : n ≤ n') : Sm k' n' p := ⟨h.lay, Nat.le_trans h.dep hk, h.sho, h.dic, h.sht, Nat.le_trans h.blk hn⟩
theorem smA_all : ∀ {ps : List PyData}, (∀ p ∈ ps, Sm k n p) → SmA k ((n + 1) * ps.length) ps
  | [], _ => smA_nil
  | p :: ps, h => (smA_cons (h p (by simp)) (smA_all fun q hq => h q (by simp [hq]))).mono (Nat.le_refl _) (by rw [List.length_cons, Nat.mul_succ]; omega)
theorem sm_list (h : SmA k n ps) : Sm (k + 1) n (.list ps) :=
  ⟨by unfold PyData.canLay0; exact h.lay, by unfold PyData.depth; have := h.dep; omega, by unfold PyData.showable; exact h.sho, by unfold PyData.hasDict; exact h.dic, by unfold PyData.leavesShort; exact h.sht, by unfold PyData.bulk; exact h.blk⟩
theorem sm_tuple (h : SmA k n ps) : Sm (k + 1) n (.tuple ps) :=
  ⟨by unfold PyData.canLay0; exact h.lay, by unfold PyData.depth; have := h.dep; omega, by unfold PyData.showable; exact h.sho, by unfold PyData.hasDict; exact h.dic, by unfold PyData.leavesShort; exact h.sht, by unfold PyData.bulk; exact h.blk⟩
theorem sm_bool {b : Bool} : Sm k n (.bool b) := ⟨rfl, Nat.zero_le _, rfl, rfl, rfl, Nat.zero_le _⟩
theorem sm_none : Sm k n .none := ⟨rfl, Nat.zero_le _, rfl, rfl, rfl, Nat.zero_le _⟩
theorem nat_short : ∀ j : Nat, j ≤ 3000 → (PyData.shown (.int (j : Nat))).length ≤ 12 := by decide +kernel
theorem sm_nat {j : Nat} (h : j ≤ 3000) : Sm k n (.int (j : Nat)) :=
  ⟨rfl, Nat.zero_le _, by
    unfold PyData.showable
    rw [decide_eq_true_eq]
    have : ((j : Nat) : Int).natAbs = j := Int.natAbs_natCast j
    rw [this]
    by_cases e : j = 0
    · rw [e]; decide
    · have := (Nat.log2_lt e (k := 1920)).mpr (Nat.lt_of_le_of_lt h (Nat.lt_of_lt_of_le (by decide : 3000 < 2 ^ 12) (Nat.pow_le_pow_right (by decide) (by decide))))
      exact this, rfl, by unfold PyData.leavesShort; exact decide_eq_true (nat_short j h), Nat.zero_le _⟩
theorem Sm.shaped (h : Sm k n p) (hk : k ≤ 60) : SeqAt.shaped p = true := by
  unfold SeqAt.shaped
  rw [h.lay, Bool.true_and, decide_eq_true_eq]
  have := h.dep; omega
/-- repr, == of small data -/
theorem wq_repr {x : Dv} {M : Mem} {q : QE} (hx : (match x with | .tup _ => true | .rol _ => true | .loc _ => true | _ => false) = true) (hr : rd M deep x = some p) (h : Sm k n p) (hk : k ≤ 60) (hn : n ≤ 1000000) (c : q (.str p.shown) M) : Wp (reprE [x] M) q := by
  have ok : p.showable = true ∧ p.hasDict = false ∧ p.depth ≤ 60 ∧ p.shown.length ≤ sizeLine := by
    refine ⟨h.sho, h.dic, Nat.le_trans h.dep hk, ?_⟩
    have e := PyData.shown_le_bulk 12 (by decide) p h.sht
    have := h.blk
    exact Nat.le_trans e (by show _ ≤ 2 ^ 24; omega)
  refine wp_ev ?_ c
  cases x with
  | tup xs => show reprD [.tup xs] M = _; unfold reprD; simp only [hr, if_pos ok]
  | rol xs => show reprD [.rol xs] M = _; unfold reprD; simp only [hr, if_pos ok]
  | loc m => show reprD [.loc m] M = _; unfold reprD; simp only [hr, if_pos ok]
  | _ => cases hx
theorem wq_reprB {b : Bool} {M : Mem} {q : QE} (c : q (.str (if b then "True" else "False")) M) : Wp (reprE [.bl b] M) q := wp_ok c
theorem wq_reprN {M : Mem} {q : QE} (c : q (.str "None") M) : Wp (reprE [.non] M) q := wp_ok c
theorem wq_eqS {b : Bool} {x y : Dv} {M : Mem} {Q : QE} {p q : PyData} {k' n' : Nat} (hx : rd M deep x = some p) (hy : rd M deep y = some q) (sp : Sm k n p) (sq : Sm k' n' q) (hk : k ≤ 60) (hk' : k' ≤ 60) (c : Q (.bl (xor b (PyData.eqv p q))) M) : Wp (eqD b x y M) Q :=
  wq_eqD hx hy (sp.shaped hk) (sq.shaped hk') c
end
/-! what is read of lists of bools, of numbers -/
theorem smA_bools {k : Nat} (bs : List Bool) : SmA k bs.length (bs.map .bool) :=
  (smA_all (k := k) (n := 0) fun p hp => by obtain ⟨b, _, rfl⟩ := List.mem_map.mp hp; exact sm_bool).mono (Nat.le_refl _) (by simp)
def natsP (ns : List Nat) : List PyData := ns.map fun n => .int (n : Nat)
theorem smA_nats {k : Nat} {ns : List Nat} (h : ∀ n ∈ ns, n ≤ 3000) : SmA k ns.length (natsP ns) :=
  (smA_all (k := k) (n := 0) fun p hp => by obtain ⟨j, hj, rfl⟩ := List.mem_map.mp hp; exact sm_nat (h j hj)).mono (Nat.le_refl _) (by simp [natsP])
theorem rd_nats {M : Mem} {n : Nat} : ∀ ns : List Nat, rdL (rd M n) (ns.map fun j => Dv.int (j : Nat)) = some (natsP ns)
  | [] => rfl
  | j :: ns => rdL_cons (by cases n <;> rfl) (rd_nats ns)
theorem eqvA_bools : ∀ as bs : List Bool, PyData.eqvAll (as.map .bool) (bs.map .bool) = (as == bs)
  | [], [] => rfl
  | [], _ :: _ => rfl
  | _ :: _, [] => rfl
  | a :: as, b :: bs => by
    rw [List.map_cons, List.map_cons]
    unfold PyData.eqvAll
    rw [eqvA_bools as bs]
    cases a <;> cases b <;> rfl
theorem eqvA_nats : ∀ as bs : List Nat, PyData.eqvAll (natsP as) (natsP bs) = (as == bs)
  | [], [] => rfl
  | [], _ :: _ => rfl
  | _ :: _, [] => rfl
  | a :: as, b :: bs => by
    unfold natsP
    rw [List.map_cons, List.map_cons]
    unfold PyData.eqvAll
    have := eqvA_nats as bs
    unfold natsP at this
    rw [this]
    have e : PyData.eqv (.int (a : Nat)) (.int (b : Nat)) = (a == b) := by
      show ((a : Int) == (b : Int)) = _
      rw [Bool.eq_iff_iff, beq_iff_eq, beq_iff_eq]
      exact Int.ofNat_inj
    rw [e]; rfl
end Zl

/-! text Y6 -/
namespace Zl
open PySem L2 PySem.Spec PyProof.Rows
theorem wr_lstT {xs : List Dv} {M : Mem} {q : QE} (c : kNew (.lst xs) (fun k M2 => q (.loc k) M2) M) : Wp (lstE [.tup xs] M) q := wq_lstT c
theorem wr_lstL {n : Nat} {xs : List Dv} {M : Mem} {q : QE} (hm : M[n]? = some (.lst xs)) (c : kNew (.lst xs) (fun k M2 => q (.loc k) M2) M) : Wp (lstE [.loc n] M) q := wq_lstL hm c
theorem wr_lstS {x : Str} {M : Mem} {q : QE} (h : x.cps.size ≤ sizeLine) (c : kNew (.lst (signsD x)) (fun k M2 => q (.loc k) M2) M) : Wp (lstE [.str x] M) q :=
  wp_ev (a := .loc M.length) (M' := M ++ [.lst (signsD x)]) (by unfold lstE; simp only; rw [if_pos h]) (c _ _ rfl at_new (.app _) (by simp))
/-! a text walked -/
def stpS (x : Str) : Stp := fun i _ => some (x.cps[i]?.map fun c => .str ⟨#[c]⟩)
theorem k_srcS {x : Str} {M : Mem} {qi : Src → Mem → Prop} (hq : qi ⟨x.cps.size, stpS x⟩ M) : kSrc qi (.str x) M := ⟨_, rfl, hq⟩
theorem stpS_at {x : Str} {i : Nat} {M : Mem} : stpS x i M = some (signsD x)[i]? := by
  unfold stpS signsD
  rw [List.getElem?_map, Array.getElem?_toList]
theorem signs_len {x : Str} : (signsD x).length = x.cps.size := by simp [signsD]
theorem k_forS {env : En} {M : Mem} {g : FG} {f : FS} {Q : QS} {x : Str} {I : Nat → En → Mem → Prop} (h0 : I 0 env M) (h1 : ∀ i d env M, (signsD x)[i]? = some d → I i env M → Wp (g d env M) fun e1 M1 => Wp (f e1 M1) (kLoop (I (i + 1)) Q)) (h2 : ∀ env M, I x.cps.size env M → Q (.nx env) M) : kFor I g f env Q ⟨x.cps.size, stpS x⟩ M :=
  ⟨h0, fun i env M hi hh => by
    have hi' : i < (signsD x).length := by rw [signs_len]; exact hi
    exact ⟨_, by show stpS x i M = _; rw [stpS_at, List.getElem?_eq_getElem hi'], h1 i _ env M (List.getElem?_eq_getElem hi') hh⟩, fun env M hh => ⟨by show stpS x x.cps.size M = _; rw [stpS_at, List.getElem?_eq_none (by rw [signs_len]; exact Nat.le_refl _)], h2 env M hh⟩⟩
theorem k_mapS {fe : FE} {env : En} {v : Nat} {vs : List Nat} {φ : Dv → Dv} {q : QE} {x : Str} {M : Mem} (hl : x.cps.size ≤ sizeLine) (he : ∀ y ∈ signsD x, ∀ M', Kp NoW M M' → Wp (fe ((wipeE env vs).set v (some y)) M') fun y' M3 => y' = φ y ∧ Kp NoW M' M3)
    (hq : ∀ n M', n = M.length → M.length < M'.length → Kp NoW M M' → M'[n]? = some (.lst ((signsD x).map φ)) → q (.loc n) M') : kMap fe env v vs φ q ⟨x.cps.size, stpS x⟩ M := ⟨signsD x, signs_len.symm, by rw [signs_len]; exact hl, fun _ M' _ _ => stpS_at (M := M'), he, hq⟩
/-! name += e -/
theorem wp_aug {env : En} {M : Mem} {i : Nat} {h : Int → Int → Int} {f : FE} {Q : QS} {a : Int} (he : env[i]? = some (some (.int a))) (k : Wp (f env M) (kInt fun b M1 => Q (.nx (env.set i (some (.int (h a b))))) M1)) : Wp (fAug i h f env M) Q := by
  unfold fAug
  simp only [he]
  refine wp_bnd (k.go fun d M1 ⟨b, e, q⟩ => ?_)
  subst e
  exact wp_ok q
end Zl

/-! text Y7 -/
namespace Zl
open PySem L2 PySem.Spec PyProof.Rows
/-! ## running dicts -/
theorem valD_put {kvs : List (Key × Dv)} {k k' : Key} {v : Dv} : valD (putDk kvs k v) k' = if k = k' then some v else valD kvs k' := by
  unfold putDk
  by_cases h : (kvs.any fun kv => decide (kv.1 = k)) = true
  · rw [if_pos h]
    induction kvs with
    | nil => cases h
    | cons p kvs ih =>
      rw [List.map_cons]
      unfold valD
      rw [List.find?_cons, List.find?_cons]
      by_cases e : p.1 = k
      · rw [if_pos e]
        by_cases e2 : k = k'
        · rw [if_pos e2]
          have : decide ((p.1, v).1 = k') = true := decide_eq_true (e.trans e2)
          rw [this]; rfl
        · rw [if_neg e2]
          have a1 : decide ((p.1, v).1 = k') = false := decide_eq_false (fun z => e2 (e.symm.trans z))
          have a2 : decide (p.1 = k') = false := decide_eq_false (fun z => e2 (e.symm.trans z))
          rw [a1]
          show Option.map _ (List.find? _ (List.map _ kvs)) = Option.map _ (List.find? _ kvs)
          by_cases h2 : (kvs.any fun kv => decide (kv.1 = k)) = true
          · have := ih h2; rw [if_neg e2] at this; exact this
          · have hm : (kvs.map fun kv => if kv.1 = k then (kv.1, v) else kv) = kvs := by
              refine (List.map_congr_left fun x hx => ?_).trans (List.map_id kvs)
              rw [if_neg]; rfl
              intro z
              exact h2 (List.any_eq_true.mpr ⟨x, hx, decide_eq_true z⟩)
            rw [hm]
      · rw [if_neg e]
        have h2 : (kvs.any fun kv => decide (kv.1 = k)) = true := by
          rw [List.any_cons, decide_eq_false e, Bool.false_or] at h; exact h
        have i := ih h2
        unfold valD at i
        by_cases e3 : p.1 = k'
        · rw [decide_eq_true e3]
          rw [if_neg (fun z => e (e3.trans z.symm))]
        · rw [decide_eq_false e3]
          exact i
  · rw [if_neg h]
    unfold valD
    rw [List.find?_append]
    by_cases e2 : k = k'
    · subst e2
      rw [if_pos rfl]
      have : kvs.find? (fun kv => decide (kv.1 = k)) = none := by
        rw [List.find?_eq_none]
        intro x hx z
        exact h (List.any_eq_true.mpr ⟨x, hx, z⟩)
      rw [this]; simp
    · rw [if_neg e2]
      have : [(k, v)].find? (fun kv => decide (kv.1 = k')) = none := by simp [e2]
      rw [this, Option.or_none]
theorem putDk_len {kvs : List (Key × Dv)} {k : Key} {v : Dv} : (putDk kvs k v).length ≤ kvs.length + 1 := by
  unfold putDk
  split <;> simp
section
variable {M : Mem} {n : Nat} {kvs : List (Key × Dv)} {k : Key} {env : En}
theorem wq_dnew {q : QE} (h : kNew (.dct []) (fun n M2 => q (.loc n) M2) M) : Wp (fDNew env M) q :=
  wp_ev (a := .loc M.length) (M' := M ++ [.dct []]) rfl (h _ _ rfl at_new (.app _) (by simp))
theorem k_setDk {i d : Dv} {q : Mem → Prop} (hm : M[n]? = some (.dct kvs)) (hk : keyD i = some k) (hl : kvs.length < sizeLine) (h : kWr n (.dct (putDk kvs k d)) q M) : kSet (.loc n) i d q M :=
  ⟨_, by unfold setE; simp only [hm, hk, if_pos hl], h _ (at_set hm) (.set fun _ => rfl) (by simp)⟩
theorem wq_dget {fo fe : FE} {q : QE} (h : Wp (fo env M) fun d M1 => ∃ m kv1, d = .loc m ∧ M1[m]? = some (.dct kv1) ∧ Wp (fe env M1) fun y M2 => ∃ kv k, M2[m]? = some (.dct kv) ∧ keyD y = some k ∧ q ((valD kv k).getD .non) M2) : Wp (fDGet fo fe env M) q := by
  unfold fDGet
  refine wp_bnd (h.go ?_)
  rintro d M1 ⟨m, kv1, rfl, h1, w⟩
  simp only [h1]
  refine wp_bnd (w.go ?_)
  rintro y M2 ⟨kv, k, h2, h3, h4⟩
  simp only [h2, h3]
  exact wp_ok h4
theorem wq_rng3 {fa fb fc : FE} {qi : Src → Mem → Prop} (h : Wp (fa env M) fun d M1 => Wp (fb env M1) fun d2 M2 => Wp (fc env M2) fun d3 M3 => ∃ i j : Int, d = .int i ∧ d2 = .int j ∧ d3 = .int (-1) ∧ -(2 ^ 62) ≤ i ∧ i < 2 ^ 62 ∧ -(2 ^ 62) ≤ j ∧ j < 2 ^ 62 ∧ qi (srcC i (-1) (i - j).toNat) M3) : Wp (fRng3 fa fb fc env M) qi := by
  unfold fRng3
  refine wp_bnd (h.go fun d M1 w => wp_bnd (w.go fun d2 M2 w => wp_bnd (w.go ?_)))
  rintro d3 M3 ⟨i, j, rfl, rfl, rfl, h1, h2, h3, h4, h5⟩
  simp only [h1, h2, h3, h4, and_self, if_true]
  exact wp_ok h5
/-- a for that counts n - 1, .., 0 -/
theorem k_forD {g : FG} {f : FS} {Q : QS} {I : Nat → En → Mem → Prop} (h0 : I 0 env M) (h1 : ∀ i t env M, t + i + 1 = n → I i env M → Wp (g (.int (t : Nat)) env M) fun e1 M1 => Wp (f e1 M1) (kLoop (I (i + 1)) Q)) (h2 : ∀ env M, I n env M → Q (.nx env) M) : kFor I g f env Q (srcC ((n : Int) - 1) (-1) ((n : Int) - 1 - (-1)).toNat) M := by
  have e : ((n : Int) - 1 - (-1)).toNat = n := by omega
  rw [e]
  refine ⟨h0, fun i env M hi hh => ?_, fun env M hh => ⟨?_, h2 env M hh⟩⟩
  · have hi' : i < n := hi
    refine ⟨.int ((n - 1 - i : Nat) : Int), ?_, h1 i (n - 1 - i) env M (by omega) hh⟩
    show (if i < n then some (some (Dv.int ((n : Int) - 1 + i * (-1)))) else some none) = _
    rw [if_pos hi']
    congr 3
    omega
  · show (if n < n then _ else some none) = _
    rw [if_neg (Nat.lt_irrefl n)]
end
end Zl

/-! text Y8 -/
namespace Zl
open PySem L2 PySem.Spec PyProof.Rows
section
variable {env : En} {M : Mem} {Q : QS} {q : QE} {fo fv fa : FE} {c np : Nat} {fld : Str} {F : FF} {h : Int → Int → Int}
def kFA (c : Nat) (fld : Str) (h : Int → Int → Int) (fv : FE) (env : En) (q : Mem → Prop) : QE := fun d M1 => ∃ n fs i, d = .loc n ∧ M1[n]? = some (.ins c fs) ∧ fs.lookup fld = some (.int i) ∧ Wp (fv env M1) fun y M2 => ∃ j fs2, y = .int j ∧ M2[n]? = some (.ins c fs2) ∧ fs2.length < 1000 ∧ kWr n (.ins c (putD fld (.int (h i j)) fs2)) q M2
theorem wq_fldaug (k : Wp (fo env M) (kFA c fld h fv env fun M3 => Q (.nx env) M3)) : Wp (fFldAug c fld h fo fv env M) Q :=
  wp_bnd (k.go fun d M1 ⟨n, fs, i, e, h1, h2, h3⟩ => by
    subst e
    show Wp (match M1[n]? with | some (.ins c' fs) => if c' = c then match fs.lookup fld with | some (.int i) => bnd (fv env M1) _ | _ => none else none | _ => none) _
    simp only [h1, if_true, h2]
    refine wp_bnd (h3.go fun y M2 ⟨j, fs2, e, g1, g2, g3⟩ => ?_)
    subst e
    show Wp (match M2[n]? with | some (.ins c2 fs2) => if c2 = c ∧ fs2.length < 1000 then some (Fl.nx env, M2.set n (.ins c (putD fld (.int (h i j)) fs2))) else none | _ => none) _
    simp only [g1, g2, and_self, if_true]
    exact wp_ok (g3 _ (at_set g1) (.set fun _ => rfl) (by simp)))
theorem wq_prop (k : Wp (fo env M) fun d M1 => (isIns c fld d M1 = true ∧ 1 = np) ∧ Wp (F [d] M1) q) : Wp (fProp c fld np F fo env M) q :=
  wp_bnd (k.go fun d M1 k => by
    show Wp (if _ then _ else _) _
    rw [if_pos k.1]; exact k.2)
theorem wq_rngAB {fa fb : FE} {qi : Src → Mem → Prop} (h : Wp (fa env M) fun d M1 => Wp (fb env M1) fun d2 M2 => ∃ i j : Int, d = .int i ∧ d2 = .int j ∧ -(2 ^ 62) ≤ i ∧ i < 2 ^ 62 ∧ -(2 ^ 62) ≤ j ∧ j < 2 ^ 62 ∧ qi (srcR i (j - i).toNat) M2) : Wp (fRng2 fa fb env M) qi := by
  unfold fRng2
  refine wp_bnd (h.go fun d M1 w => wp_bnd (w.go ?_))
  rintro d2 M2 ⟨i, j, rfl, rfl, h1, h2, h3, h4, h5⟩
  simp only [h1, h2, h3, h4, and_self, if_true]
  exact wp_ok h5
theorem wq_setT {xs : List Str} {M : Mem} {q : QE} (hl : xs.length < 4000) (k : kNew (.sk (dedS xs)) (fun n M2 => q (.loc n) M2) M) : Wp (setOfE [.tup (xs.map .str)] M) q := by
  refine wp_ev (a := .loc M.length) (M' := M ++ [.sk (dedS xs)]) ?_ (k _ _ rfl at_new (.app _) (by simp))
  unfold setOfE
  simp only [strsOf_map, hl, if_true]
theorem wq_lenSk {n : Nat} {xs : List Str} {M : Mem} {q : QE} (hm : M[n]? = some (.sk xs)) (k : q (.int (xs.length : Nat)) M) : Wp (lenE [.loc n] M) q := by
  refine wp_ev ?_ k
  unfold lenE
  simp only [hm]
theorem wq_sortR (k : Wp (fa env M) fun d M1 => ∃ n is, d = .loc n ∧ M1[n]? = some (.lst (List.map .int is)) ∧ downB is = true ∧ kNew (.lst (List.map .int is)) (fun m M2 => q (.loc m) M2) M1) : Wp (fSortR fa env M) q :=
  wp_bnd (k.go fun d M1 ⟨n, is, e, h1, h2, h3⟩ => by
    subst e
    have hi : ∀ is : List Int, intsOf (is.map .int) = some is := fun is => by
      induction is with
      | nil => rfl
      | cons i is ih =>
        show (match intsOf (is.map .int) with | some ys => some (i :: ys) | none => none) = _
        rw [ih]
    refine ⟨.loc M1.length, M1 ++ [.lst (List.map .int is)], ?_, h3 _ _ rfl at_new (.app _) (by simp)⟩
    simp only [h1, hi, h2, if_true])
end
def stpEM (n : Nat) : Stp := fun i M => match M[n]? with
  | some (.lst xs) => some (pairs xs i)
  | _ => none
theorem k_enumM {n : Nat} {xs : List Dv} {M : Mem} {qi : Src → Mem → Prop} (hm : M[n]? = some (.lst xs)) (h : qi ⟨xs.length, stpEM n⟩ M) : kEnum qi (.loc n) M := by
  refine ⟨⟨xs.length, stpEM n⟩, ?_, h⟩
  unfold srcE
  simp only [hm]
  rfl
theorem stpEM_at {n i : Nat} {xs : List Dv} {M : Mem} (hm : M[n]? = some (.lst xs)) : stpEM n i M = some (pairs xs i) := by
  unfold stpEM; simp only [hm]
theorem k_forEM {env : En} {M : Mem} {g : FG} {f : FS} {Q : QS} {n : Nat} {xs : List Dv} {I : Nat → En → Mem → Prop} (hm : ∀ i env M, I i env M → M[n]? = some (.lst xs)) (h0 : I 0 env M) (h1 : ∀ i d env M, xs[i]? = some d → I i env M → Wp (g (.pr [.int (i : Nat), d]) env M) fun e1 M1 => Wp (f e1 M1) (kLoop (I (i + 1)) Q)) (h2 : ∀ env M, I xs.length env M → Q (.nx env) M) : kFor I g f env Q ⟨xs.length, stpEM n⟩ M :=
  ⟨h0, fun i env M hi hh => ⟨_, by show stpEM n i M = _; rw [stpEM_at (hm i env M hh)]; unfold pairs; rw [List.getElem?_eq_getElem hi]; rfl, h1 i _ env M (List.getElem?_eq_getElem hi) hh⟩,
    fun env M hh => ⟨by show stpEM n xs.length M = _; rw [stpEM_at (hm _ env M hh)]; unfold pairs; rw [List.getElem?_eq_none (Nat.le_refl _)]; rfl, h2 env M hh⟩⟩
end Zl

/-! text Y9 -/
namespace Zl
open PySem L2 PySem.Spec PyProof.Rows
section
variable {env : En} {M : Mem} {q : QE} {Q : QS}
theorem ws_lstT {xs : List Dv} (c : kNew (.lst xs) (fun k M2 => q (.loc k) M2) M) : Wp (lstF [.tup xs] M) q := wq_lstT c
theorem ws_lstL {n : Nat} {xs : List Dv} (hm : M[n]? = some (.lst xs)) (c : kNew (.lst xs) (fun k M2 => q (.loc k) M2) M) : Wp (lstF [.loc n] M) q := by
  have : lstF [.loc n] M = lstE [.loc n] M := by unfold lstF; simp only [hm]
  rw [this]; exact wr_lstL hm c
theorem wq_lstK {n : Nat} {kvs : List (Key × Dv)} (hm : M[n]? = some (.dct kvs)) (hl : kvs.length ≤ 1000) (c : kNew (.lst (keysDv kvs)) (fun k M2 => q (.loc k) M2) M) : Wp (lstF [.loc n] M) q := by
  refine wp_ev (a := .loc M.length) (M' := M ++ [.lst (keysDv kvs)]) ?_ (c _ _ rfl at_new (.app _) (by simp))
  unfold lstF
  simp only [hm, if_pos hl]
/-- o.f = d, in a target -/
theorem wq_gFld {qe : En → Mem → Prop} {c : Nat} {fld : Str} {fo : FE} {d : Dv} (h : Wp (fo env M) (kPut c fld d fun M' => qe env M')) : Wp (gFld c fld fo d env M) qe := by
  unfold gFld
  refine wp_bnd (h.go ?_)
  rintro _ M1 ⟨k, fs, rfl, h1, h2, h3⟩
  simp only [h1, h2, and_self, if_true]
  exact wp_ok h3
/-- for k in a dict -/
theorem wq_forK {k n : Nat} {g : FG} {f : FS} {kvs : List (Key × Dv)} (hn : env[k]? = some (some (.loc n))) (hm : M[n]? = some (.dct kvs)) (I : Nat → En → Mem → Prop) (h0 : I 0 env (M.set n .lck))
    (h1 : ∀ i p env M, kvs[i]? = some p → I i env M → Wp (g (keyDv p.1) env M) fun e1 M1 => Wp (f e1 M1) (kLoop (I (i + 1)) fun fl M2 => Q fl (M2.set n (.dct kvs)))) (h2 : ∀ env M, I kvs.length env M → Q (.nx env) (M.set n (.dct kvs))) : Wp (fForK k g f env M) Q := by
  have w : Wp (loopF (stpK kvs) g f kvs.length 0 env (M.set n .lck)) fun fl M2 => Q fl (M2.set n (.dct kvs)) := by
    refine wp_loop I kvs.length (fun i env M hi hh => ?_) (fun env M hh => ⟨?_, h2 env M hh⟩) kvs.length 0 env _ rfl h0
    · refine ⟨keyDv kvs[i].1, ?_, h1 i _ env M (List.getElem?_eq_getElem hi) hh⟩
      show some (kvs[i]?.map fun p => keyDv p.1) = _
      rw [List.getElem?_eq_getElem hi]; rfl
    · show some (kvs[kvs.length]?.map fun p => keyDv p.1) = _
      rw [List.getElem?_eq_none (Nat.le_refl _)]; rfl
  obtain ⟨fl, M2, e, w⟩ := w
  refine ⟨fl, M2.set n (.dct kvs), ?_, w⟩
  unfold fForK
  simp only [hn, hm, e]
end
end Zl
namespace Zl
open PySem L2 PySem.Spec PyProof.Rows
theorem wq_starE {fa : FE} {fr : FA} {env : En} {M : Mem} {q : List Dv → Mem → Prop} (h : Wp (fa env M) fun d M1 => ∃ xs, (d = .tup xs ∨ ∃ n, d = .loc n ∧ M1[n]? = some (.lst xs)) ∧ Wp (fr env M1) fun ds M2 => q (xs ++ ds) M2) : Wp (fStarE fa fr env M) q := by
  unfold fStarE
  refine wp_bnd (h.go ?_)
  rintro d M1 ⟨xs, h1 | ⟨n, h1, h2⟩, w⟩
  · subst h1
    exact wp_bnd (w.go fun ds M2 k => wp_ok k)
  · subst h1
    simp only [h2]
    exact wp_bnd (w.go fun ds M2 k => wp_ok k)
end Zl

/-! text Pf1 -/
namespace Zl
/-! ## graphs of stages: what is unlike in effect; the plain form, by the first stages of the classes -/
structure Gr (α : Type) where
  pl : α → Nat
  ln : α → Nat
  go : α → List α
section
variable {α β : Type}
inductive Un (g : Gr α) : α → α → Prop
  | base {a b : α} : (g.ln a ≠ g.ln b ∨ g.pl a ≠ g.pl b) → Un g a b
  | step {a b x y : α} : (x, y) ∈ (g.go a).zip (g.go b) → Un g x y → Un g a b
theorem mem_zip_iff {xs ys : List α} {x y : α} : (x, y) ∈ xs.zip ys ↔ ∃ i : Nat, xs[i]? = some x ∧ ys[i]? = some y := by
  rw [List.mem_iff_getElem?]
  constructor
  · rintro ⟨i, h⟩
    rw [List.getElem?_zip_eq_some] at h
    exact ⟨i, h⟩
  · rintro ⟨i, h1, h2⟩
    exact ⟨i, List.getElem?_zip_eq_some.mpr ⟨h1, h2⟩⟩
theorem un_irrefl {g : Gr α} {a b : α} (h : Un g a b) : a ≠ b := by
  induction h with
  | base h => rintro rfl; rcases h with h | h <;> exact h rfl
  | step hm _ ih =>
    rintro rfl
    obtain ⟨i, h1, h2⟩ := mem_zip_iff.mp hm
    rw [h1] at h2
    exact ih (Option.some.inj h2)
/-- φ carries the one graph into the other one -/
structure Hom (g : Gr α) (h : Gr β) (φ : α → β) (C : α → Prop) : Prop where
  on : ∀ a, C a → ∀ x ∈ g.go a, C x
  pl : ∀ a, C a → h.pl (φ a) = g.pl a
  ln : ∀ a, C a → h.ln (φ a) = g.ln a
  go : ∀ a, C a → h.go (φ a) = (g.go a).map φ
theorem un_hom {g : Gr α} {h : Gr β} {φ : α → β} {C : α → Prop} (H : Hom g h φ C) {a b : α} (ha : C a) (hb : C b) : Un h (φ a) (φ b) ↔ Un g a b := by
  constructor
  · intro u
    generalize ex : φ a = x at u
    generalize ey : φ b = y at u
    induction u generalizing a b with
    | base q => subst ex ey; rw [H.ln a ha, H.ln b hb, H.pl a ha, H.pl b hb] at q; exact .base q
    | step hm _ ih =>
      subst ex ey
      obtain ⟨i, h1, h2⟩ := mem_zip_iff.mp hm
      rw [H.go a ha, List.getElem?_map] at h1
      rw [H.go b hb, List.getElem?_map] at h2
      cases e1 : (g.go a)[i]? with
      | none => rw [e1] at h1; cases h1
      | some a' =>
        cases e2 : (g.go b)[i]? with
        | none => rw [e2] at h2; cases h2
        | some b' =>
          rw [e1] at h1; rw [e2] at h2
          exact .step (mem_zip_iff.mpr ⟨i, e1, e2⟩) (ih (H.on a ha a' (List.mem_of_getElem? e1)) (H.on b hb b' (List.mem_of_getElem? e2)) (Option.some.inj h1) (Option.some.inj h2))
  · intro u
    induction u with
    | base q => refine .base ?_; rw [H.ln _ ha, H.ln _ hb, H.pl _ ha, H.pl _ hb]; exact q
    | @step a b x y hm _ ih =>
      obtain ⟨i, h1, h2⟩ := mem_zip_iff.mp hm
      have c1 := H.on a ha x (List.mem_of_getElem? h1)
      have c2 := H.on b hb y (List.mem_of_getElem? h2)
      refine .step (x := φ x) (y := φ y) (mem_zip_iff.mpr ⟨i, ?_, ?_⟩) (ih c1 c2)
      · rw [H.go a ha, List.getElem?_map, h1]; rfl
      · rw [H.go b hb, List.getElem?_map, h2]; rfl
/-! ## numbers by the first ones -/
def num1 (lk : α → α → Bool) (fs : List α) (x : α) : Nat × List α :=
  (fs.findIdx (fun f => lk x f), if fs.findIdx (fun f => lk x f) < fs.length then fs else fs ++ [x])
def numL (lk : α → α → Bool) : List α → List α → List Nat × List α
  | fs, [] => ([], fs)
  | fs, x :: xs => ((num1 lk fs x).1 :: (numL lk (num1 lk fs x).2 xs).1, (numL lk (num1 lk fs x).2 xs).2)
def lawG (g : Gr α) (lk : α → α → Bool) : Nat → List α → List (Nat × List Nat) → Option (List α × List (Nat × List Nat))
  | 0, _, _ => none
  | f + 1, fs, told => match fs[told.length]? with
    | none => some (fs, told)
    | some s => lawG g lk f (numL lk fs (g.go s)).2 (told ++ [(g.pl s, (numL lk fs (g.go s)).1)])
theorem num1_mem {lk : α → α → Bool} {fs : List α} {x y : α} (h : y ∈ (num1 lk fs x).2) : y ∈ fs ∨ y = x := by
  unfold num1 at h
  split at h
  · exact .inl h
  · rcases List.mem_append.mp h with h | h
    · exact .inl h
    · exact .inr (by simpa using h)
theorem numL_mem {lk : α → α → Bool} : ∀ {xs fs : List α} {y : α}, y ∈ (numL lk fs xs).2 → y ∈ fs ∨ y ∈ xs
  | [], _, _, h => .inl h
  | x :: xs, fs, y, h => by
    rcases numL_mem (xs := xs) h with h | h
    · rcases num1_mem h with h | h
      · exact .inl h
      · exact .inr (by simp [h])
    · exact .inr (by simp [h])
theorem num1_hom {lk : α → α → Bool} {lk' : β → β → Bool} {φ : α → β} {C : α → Prop} (hl : ∀ a b, C a → C b → lk' (φ a) (φ b) = lk a b) {fs : List α} {x : α} (hf : ∀ f ∈ fs, C f) (hx : C x) :
    num1 lk' (fs.map φ) (φ x) = ((num1 lk fs x).1, (num1 lk fs x).2.map φ) := by
  have e : (fs.map φ).findIdx (fun f => lk' (φ x) f) = fs.findIdx (fun f => lk x f) := by
    rw [List.findIdx_map]
    induction fs with
    | nil => rfl
    | cons f fs ih =>
      rw [List.findIdx_cons, List.findIdx_cons, ih fun f' h => hf f' (List.mem_cons_of_mem _ h)]
      show (bif lk' (φ x) (φ f) then _ else _) = _
      rw [hl x f hx (hf f (List.mem_cons_self ..))]
  unfold num1
  rw [e, List.length_map]
  refine Prod.ext rfl ?_
  dsimp only
  split
  · rfl
  · simp
theorem numL_hom {lk : α → α → Bool} {lk' : β → β → Bool} {φ : α → β} {C : α → Prop} (hl : ∀ a b, C a → C b → lk' (φ a) (φ b) = lk a b) : ∀ {xs fs : List α}, (∀ f ∈ fs, C f) → (∀ x ∈ xs, C x) →
    numL lk' (fs.map φ) (xs.map φ) = ((numL lk fs xs).1, (numL lk fs xs).2.map φ)
  | [], _, _, _ => rfl
  | x :: xs, fs, hf, hx => by
    have h1 := num1_hom hl hf (hx x (List.mem_cons_self ..))
    have h2 := numL_hom hl (xs := xs) (fs := (num1 lk fs x).2) (fun f h => (num1_mem h).elim (hf f) fun e => e ▸ hx x (List.mem_cons_self ..)) fun y h => hx y (List.mem_cons_of_mem _ h)
    show ((num1 lk' (fs.map φ) (φ x)).1 :: (numL lk' (num1 lk' (fs.map φ) (φ x)).2 (xs.map φ)).1, (numL lk' (num1 lk' (fs.map φ) (φ x)).2 (xs.map φ)).2) = _
    rw [h1]
    dsimp only
    rw [h2]
    rfl
theorem lawG_hom {g : Gr α} {h : Gr β} {lk : α → α → Bool} {lk' : β → β → Bool} {φ : α → β} {C : α → Prop} (H : Hom g h φ C) (hl : ∀ a b, C a → C b → lk' (φ a) (φ b) = lk a b) :
    ∀ {f : Nat} {fs : List α} {told : List (Nat × List Nat)}, (∀ f ∈ fs, C f) → lawG h lk' f (fs.map φ) told = (lawG g lk f fs told).map fun p => (p.1.map φ, p.2)
  | 0, _, _, _ => rfl
  | f + 1, fs, told, hf => by
    unfold lawG
    rw [List.getElem?_map]
    cases e : fs[told.length]? with
    | none => rfl
    | some s =>
      have cs := hf s (List.mem_of_getElem? e)
      have cg := H.on s cs
      show lawG h lk' f (numL lk' (fs.map φ) (h.go (φ s))).2 (told ++ [(h.pl (φ s), (numL lk' (fs.map φ) (h.go (φ s))).1)]) = (lawG g lk f (numL lk fs (g.go s)).2 (told ++ [(g.pl s, (numL lk fs (g.go s)).1)])).map _
      rw [H.go s cs, H.pl s cs, numL_hom hl hf cg]
      exact lawG_hom H hl fun f' h' => (numL_mem h').elim (hf f') (cg f')
end
end Zl

/-! text Y10 -/
namespace Zl
open PySem L2 PySem.Spec PyProof.Rows
section
variable {env : En} {M : Mem} {q : QE} {Q : QS}
/-- while the dict of a name is locked -/
theorem wq_lockE {k n : Nat} {f : FE} {kvs : List (NestedKey × Dv × Dv)} (hn : env[k]? = some (some (.loc n))) (hm : M[n]? = some (.dcn kvs)) (h : Wp (f env (M.set n (.lckN kvs))) fun d M' => q d (M'.set n (.dcn kvs))) : Wp (lockE k f env M) q := by
  obtain ⟨d, M', e, w⟩ := h
  refine ⟨d, M'.set n (.dcn kvs), ?_, w⟩
  unfold lockE
  simp only [hn, hm, e]
theorem wq_lockS {k n : Nat} {f : FS} {kvs : List (NestedKey × Dv × Dv)} (hn : env[k]? = some (some (.loc n))) (hm : M[n]? = some (.dcn kvs)) (h : Wp (f env (M.set n (.lckN kvs))) fun fl M' => Q fl (M'.set n (.dcn kvs))) : Wp (lockS k f env M) Q := by
  obtain ⟨d, M', e, w⟩ := h
  refine ⟨d, M'.set n (.dcn kvs), ?_, w⟩
  unfold lockS
  simp only [hn, hm, e]
/-- the keys of a locked dict are walked like a tuple's items -/
theorem wq_keysN {f : FE} {qi : Src → Mem → Prop} (h : Wp (f env M) fun d M1 => ∃ n kvs, d = .loc n ∧ M1[n]? = some (.lckN kvs) ∧ qi ⟨(kvs.map fun p => p.2.1).length, stpC (kvs.map fun p => p.2.1)⟩ M1) : Wp (fKeysN f env M) qi := by
  unfold fKeysN
  refine wp_bnd (h.go ?_)
  rintro _ M1 ⟨n, kvs, rfl, h1, h2⟩
  simp only [h1]
  refine wp_ok ?_
  have e : stpN kvs = stpC (kvs.map fun p => p.2.1) := by
    funext i M'
    show some (kvs[i]?.map fun p => p.2.1) = some ((kvs.map fun p => p.2.1)[i]?)
    rw [List.getElem?_map]
  rw [e, ← List.length_map (f := fun p : NestedKey × Dv × Dv => p.2.1)]
  exact h2
/-- zip of two lists, the pairs kept -/
theorem wq_zipN {f g : FE} {qi : Src → Mem → Prop} (h : Wp (f env M) fun a M1 => Wp (g env M1) fun b M2 => ∃ m n xs ys, a = .loc m ∧ b = .loc n ∧ M2[m]? = some (.lst xs) ∧ M2[n]? = some (.lst ys) ∧ ∀ src, srcZ M2 (.loc m) (.loc n) = some src → qi src M2) : Wp (fZipN f g env M) qi := by
  unfold fZipN
  refine wp_bnd (h.go fun a M1 w => wp_bnd (w.go ?_))
  rintro b M2 ⟨m, n, xs, ys, rfl, rfl, h1, h2, k⟩
  simp only [h1, h2]
  cases e : srcZ M2 (.loc m) (.loc n) with
  | some src => exact wp_ok (k src e)
  | none => simp only [srcZ, h1, h2] at e; cases e
end
end Zl

/-! text Y11 -/
namespace Zl
open PySem L2 PySem.Spec PyProof.Rows
/-! ## texts that repr writes of numbers, truths, None, in lists and tuples -/
mutual
def plnB : PyData → Bool
  | .none | .bool _ | .int _ => true
  | .list xs | .tuple xs => plnA xs
  | _ => false
def plnA : List PyData → Bool
  | [] => true
  | x :: xs => plnB x && plnA xs
end
def sml (x : Str) : Prop := ∀ k ∈ x.cps.toList, k < 1000
theorem sml_app {a b : Str} (h1 : sml a) (h2 : sml b) : sml (a ++ b) := fun k hk => by
  rw [mem_cps_append] at hk
  exact hk.elim (h1 k) (h2 k)
theorem sml_join {ts : List Str} (h : ∀ t ∈ ts, sml t) : sml (Str.join ", " ts) := fun k hk => by
  rw [mem_join] at hk
  rcases hk with ⟨t, ht, hc⟩ | ⟨_, hs⟩
  · exact h t ht k hc
  · rw [signs_sep] at hs
    simp only [List.mem_cons, List.not_mem_nil, or_false] at hs
    omega
mutual
theorem sml_shown : ∀ {p : PyData}, plnB p = true → sml p.shown
  | .none, _ => fun k hk => by
    rw [PyData.shown_none] at hk
    have e : (("None" : String) : Str).cps.toList = [78, 111, 110, 101] := by decide
    rw [e] at hk
    simp only [List.mem_cons, List.not_mem_nil, or_false] at hk
    omega
  | .bool b, _ => fun k hk => by
    rw [mem_shown_bool] at hk
    split at hk <;> simp only [List.mem_cons, List.not_mem_nil, or_false] at hk <;> omega
  | .int i, _ => fun k hk => Classical.byContradiction fun h => shown_int_free' (k := k) ⟨by omega, by omega⟩ i hk
  | .list xs, h => by
    rw [PyData.shown_list]
    unfold plnB at h
    refine sml_app (sml_app (fun k hk => ?_) (sml_join (sml_shownA h))) fun k hk => ?_
    · rw [signs_lbrack] at hk; simp at hk; omega
    · rw [signs_rbrack] at hk; simp at hk; omega
  | .tuple xs, h => by
    rw [PyData.shown_tuple]
    unfold plnB at h
    refine sml_app (sml_app (fun k hk => ?_) (sml_join (sml_shownA h))) fun k hk => ?_
    · rw [signs_lparen] at hk; simp at hk; omega
    · rw [signs_tuple_end] at hk
      split at hk <;> simp at hk <;> omega
  | .str _, h => by cases h
  | .dict _, h => by cases h
theorem sml_shownA : ∀ {xs : List PyData}, plnA xs = true → ∀ t ∈ PyData.shownAll xs, sml t
  | [], _, t, ht => by rw [PyData.shownAll_nil] at ht; cases ht
  | x :: xs, h, t, ht => by
    unfold plnA at h
    rw [Bool.and_eq_true] at h
    rw [PyData.shownAll_cons, List.mem_cons] at ht
    rcases ht with rfl | ht
    · exact sml_shown h.1
    · exact sml_shownA h.2 t ht
end
theorem shown_ok {p : PyData} (h : plnB p = true) : PyData.strOk p.shown = true := by
  unfold PyData.strOk
  rw [← Array.all_toList, List.all_eq_true]
  intro k hk
  have := sml_shown h k hk
  exact decide_eq_true (by omega)
theorem plnA_of : ∀ {xs : List PyData}, (∀ x ∈ xs, plnB x = true) → plnA xs = true
  | [], _ => rfl
  | x :: xs, h => by
    unfold plnA
    rw [h x (by simp), plnA_of fun y hy => h y (by simp [hy])]; rfl
theorem lay_strs : ∀ {ss : List Str}, (∀ s ∈ ss, PyData.strOk s = true) → PyData.canLayAll0 (ss.map PyData.str) = true ∧ PyData.depthAll (ss.map PyData.str) = 0
  | [], _ => ⟨rfl, rfl⟩
  | s :: ss, h => by
    obtain ⟨h1, h2⟩ := lay_strs (ss := ss) fun x hx => h x (by simp [hx])
    refine ⟨?_, ?_⟩
    · show PyData.canLayAll0 (PyData.str s :: ss.map PyData.str) = true
      unfold PyData.canLayAll0
      rw [h1, Bool.and_true]
      exact h s (by simp)
    · show PyData.depthAll (PyData.str s :: ss.map PyData.str) = 0
      unfold PyData.depthAll
      rw [h2]; rfl
theorem shaped_strs {ss : List Str} (h : ∀ s ∈ ss, PyData.strOk s = true) : SeqAt.shaped (.list (ss.map PyData.str)) = true := by
  obtain ⟨h1, h2⟩ := lay_strs h
  unfold SeqAt.shaped
  rw [Bool.and_eq_true]
  refine ⟨h1, decide_eq_true ?_⟩
  unfold PyData.depth
  rw [h2]; decide
theorem rd_strs2 {M : Mem} {k : Nat} : ∀ ss : List Str, rdL (rd M k) (ss.map Dv.str) = some (ss.map PyData.str)
  | [] => rfl
  | s :: ss => rdL_cons (by cases k <;> rfl) (rd_strs2 ss)
/-- two lists of the same texts are equal -/
theorem wq_eqStrs {b : Bool} {n m : Nat} {ss : List Str} {M : Mem} {q : QE} (hn : M[n]? = some (.lst (ss.map Dv.str))) (hm : M[m]? = some (.lst (ss.map Dv.str))) (h : ∀ s ∈ ss, PyData.strOk s = true) (c : q (.bl (!b)) M) : Wp (eqD b (.loc n) (.loc m) M) q := by
  have hs := shaped_strs h
  refine wq_eqD (rd_loc hn (rd_strs2 ss)) (rd_loc hm (rd_strs2 ss)) hs hs ?_
  rw [SeqAt.eqv_refl _ (SeqAt.canLay_of_shaped hs)]
  cases b <;> exact c
end Zl

/-! text B55 -/
namespace L55
open PySem L2 PySem.Spec PyProof.Rows Zl
def top (i : Nat) : Stmt := PySem.Challenge.pw_missbounds_k55_plain_forms_drawn.main.body.getD i (.Pass ⟨0, 0, 0, 0⟩)
def c_MOST_LINES : Dv := .int 4
def c_MOST_STATES : Dv := .int 64
/-! firsts_of -/
abbrev s_firsts_of : Stmt := top 19
theorem sc_firsts_of : FnScope ["stages", "classes", "order", "known", "at", "place", "after", "hits", "goal"] ["stages", "classes"] (defScope s_firsts_of) := ⟨rfl, rfl, rfl, by decide +kernel, rfl, by decide +kernel, by decide +kernel⟩
def b_firsts_of : FS := (fSeq (fPar [2, 3] (fCons (fLst (fCons (fK (.int 0)) fNil)) (fCons (fDict1K (fO ixE (fV 1) (fK (.int 0))) (fK (.int 0))) fNil))) (fSeq (fSet 4 (fK (.int 0))) (fSeq (whileF (fB (fO ltD (fV 4) (fC lenE (fCons (fV 2) fNil)))) (fSeq (fAsg (fO ixE (fFld 0 "rows" (fV 0)) (fO ixE (fV 2) (fV 4))) (gOr (gT 3 (gsCons (gN 5) (gsCons (gN 6) (gsCons (gN 7) gsNil)))) (gL 3 (gsCons (gN 5) (gsCons (gN 6) (gsCons (gN 7) gsNil)))))) (fSeq (fFor (fSrc (fO addD (fLst (fCons (fV 6) fNil)) (fV 7))) (gN 8) (fIfS (fB (fO (inE true) (fO ixE (fV 1) (fV 8)) (fV 3))) (fSeq (fAsg (fC lenE (fCons (fV 2) fNil)) (gSE (fV 3) (fO ixE (fV 1) (fV 8)))) (fDrop ((fM "list" appendD (fV 2) (fCons (fV 8) fNil))))) fEnd)) (fAug 4 (fun i j => i + j) (fK (.int 1))))) 1000000) (fRet (fTup (fCons (fV 2) (fCons (fV 3) fNil)))))))
def m_firsts_of : FF := callF 9 b_firsts_of
/-! numbered -/
abbrev s_numbered : Stmt := top 17
theorem sc_numbered : FnScope ["keys", "known", "found", "key"] ["keys"] (defScope s_numbered) := ⟨rfl, rfl, rfl, by decide +kernel, rfl, by decide +kernel, by decide +kernel⟩
def b_numbered : FS := (fSeq (fSet 1 (fDNew)) (fSeq (fSet 2 (fLst fNil)) (fSeq (fFor (fSrc (fV 0)) (gN 3) (fSeq (fIfS (fB (fO (inE true) (fV 3) (fV 1))) (fAsg (fC lenE (fCons (fV 1) fNil)) (gSE (fV 1) (fV 3))) fEnd) (fDrop ((fM "list" appendD (fV 2) (fCons (fO ixE (fV 1) (fV 3)) fNil)))))) (fRet (fV 2)))))
def m_numbered : FF := callF 4 b_numbered
/-! classes_of -/
abbrev s_classes_of : Stmt := top 18
theorem sc_classes_of : FnScope ["stages", "found", "count", "keys", "own", "row", "stage", "goal"] ["stages"] (defScope s_classes_of) := ⟨rfl, rfl, rfl, by decide +kernel, rfl, by decide +kernel, by decide +kernel⟩
def b_classes_of : FS := (fSeq (fSet 1 (fCall 1 m_numbered (fCons (fComp (fZip (fFld 0 "order" (fV 0)) (fFld 0 "rows" (fV 0))) [6, 5] (gOr (gT 2 (gsCons (gN 6) (gsCons (gN 5) gsNil))) (gL 2 (gsCons (gN 6) (gsCons (gN 5) gsNil)))) fYes (fTup (fCons (fC lenE (fCons (fO ixE (fV 6) (fK (.int 1))) fNil)) (fCons (fO ixE (fV 5) (fK (.int 0))) fNil)))) fNil))) (fSeq (fSet 2 (fK (.int 0))) (fSeq (whileF (fB (fO ltD (fV 2) (fC lenE (fCons (fC setOfE (fCons (fV 1) fNil)) fNil)))) (fSeq (fSet 2 (fC lenE (fCons (fC setOfE (fCons (fV 1) fNil)) fNil))) (fSeq (fSet 3 (fLst fNil)) (fSeq (fFor (fZip (fV 1) (fFld 0 "rows" (fV 0))) (gOr (gT 2 (gsCons (gN 4) (gsCons (gN 5) gsNil))) (gL 2 (gsCons (gN 4) (gsCons (gN 5) gsNil)))) (fDrop ((fM "list" appendD (fV 3) (fCons (fTup (fCons (fV 4) (fCons (fO ixE (fV 1) (fO ixE (fV 5) (fK (.int 1)))) (fCons (fC tupD (fCons (fComp (fSrc (fO ixE (fV 5) (fK (.int 2)))) [7] (gN 7) fYes (fO ixE (fV 1) (fV 7))) fNil)) fNil)))) fNil))))) (fSet 1 (fCall 1 m_numbered (fCons (fV 3) fNil)))))) 1000000) (fRet (fV 1)))))
def m_classes_of : FF := callF 8 b_classes_of
/-! after_hits -/
abbrev s_after_hits : Stmt := top 15
theorem sc_after_hits : FnScope ["policy", "stage", "state", "filled", "hits", "line"] ["policy", "stage"] (defScope s_after_hits) := ⟨rfl, rfl, rfl, by decide +kernel, rfl, by decide +kernel, by decide +kernel⟩
def b_after_hits : FS := (fSeq (fAsg (fV 1) (gOr (gT 2 (gsCons (gN 2) (gsCons (gN 3) gsNil))) (gL 2 (gsCons (gN 2) (gsCons (gN 3) gsNil))))) (fSeq (fSet 4 (fO ixE (fO ixE (fO ixE (fV 0) (fK (.int 1))) (fV 2)) (fK (.int 2)))) (fRet (fComp (fSrc (fV 3)) [5] (gN 5) fYes (fTup (fCons (fO ixE (fV 4) (fV 5)) (fCons (fV 3) fNil)))))))
def m_after_hits : FF := callF 6 b_after_hits
/-! Stages.place_of -/
abbrev s_Stages_place_of : Stmt := inClass (top 16) 1
theorem sc_Stages_place_of : FnScope ["self", "stage"] ["self", "stage"] (defScope s_Stages_place_of) := ⟨rfl, rfl, rfl, by decide +kernel, rfl, by decide +kernel, by decide +kernel⟩
def b_Stages_place_of : FS := (fSeq (fIfS (fB (fO (inE true) (fV 1) (fFld 0 "places" (fV 0)))) (fSeq (fAsg (fC lenE (fCons (fFld 0 "order" (fV 0)) fNil)) (gSE (fFld 0 "places" (fV 0)) (fV 1))) (fDrop ((fM "list" appendD (fFld 0 "order" (fV 0)) (fCons (fV 1) fNil))))) fEnd) (fRet (fO ixE (fFld 0 "places" (fV 0)) (fV 1))))
def m_Stages_place_of : FF := callF 2 b_Stages_place_of
/-! after_miss -/
abbrev s_after_miss : Stmt := top 14
theorem sc_after_miss : FnScope ["policy", "stage", "state", "filled", "victim", "behind", "hits"] ["policy", "stage"] (defScope s_after_miss) := ⟨rfl, rfl, rfl, by decide +kernel, rfl, by decide +kernel, by decide +kernel⟩
def b_after_miss : FS := (fSeq (fAsg (fV 1) (gOr (gT 2 (gsCons (gN 2) (gsCons (gN 3) gsNil))) (gL 2 (gsCons (gN 2) (gsCons (gN 3) gsNil))))) (fSeq (fAsg (fO ixE (fO ixE (fV 0) (fK (.int 1))) (fV 2)) (gOr (gT 3 (gsCons (gN 4) (gsCons (gN 5) (gsCons (gN 6) gsNil)))) (gL 3 (gsCons (gN 4) (gsCons (gN 5) (gsCons (gN 6) gsNil)))))) (fSeq (fIfS (fB (fO (inE false) (fV 4) (fV 3))) (fRet (fTup (fCons (fOr (fM "list" indexD (fV 3) (fCons (fV 4) fNil)) (fM "tuple" tindexD (fV 3) (fCons (fV 4) fNil))) (fCons (fTup (fCons (fV 5) (fCons (fV 3) fNil))) fNil)))) fEnd) (fRet (fTup (fCons (fC lenE (fCons (fV 3) fNil)) (fCons (fTup (fCons (fV 5) (fCons (fTup (fStarE (fV 3) (fCons (fV 4) fNil))) fNil))) fNil)))))))
def m_after_miss : FF := callF 7 b_after_miss
/-! Stages.__init__ -/
abbrev s_Stages_init : Stmt := inClass (top 16) 0
theorem sc_Stages_init : FnScope ["self", "policy", "stage", "place", "behind", "after", "goal"] ["self", "policy"] (defScope s_Stages_init) := ⟨rfl, rfl, rfl, by decide +kernel, rfl, by decide +kernel, by decide +kernel⟩
def b_Stages_init : FS := (fSeq (fPut 0 "order" (fV 0) (fLst (fCons (fTup (fCons (fK (.int 0)) (fCons (fTup fNil) fNil))) fNil))) (fSeq (fPut 0 "places" (fV 0) (fDict1N (fTup (fCons (fK (.int 0)) (fCons (fTup fNil) fNil))) (fK (.int 0)))) (fSeq (fPut 0 "rows" (fV 0) (fLst fNil)) (whileF (fB (fO ltD (fC lenE (fCons (fFld 0 "rows" (fV 0)) fNil)) (fC lenE (fCons (fFld 0 "order" (fV 0)) fNil)))) (fSeq (fSet 2 (fO ixE (fFld 0 "order" (fV 0)) (fC lenE (fCons (fFld 0 "rows" (fV 0)) fNil)))) (fSeq (fAsg (fCall 2 m_after_miss (fCons (fV 1) (fCons (fV 2) fNil))) (gOr (gT 2 (gsCons (gN 3) (gsCons (gN 4) gsNil))) (gL 2 (gsCons (gN 3) (gsCons (gN 4) gsNil))))) (fSeq (fSet 5 (fMeth 0 "place_of" 2 m_Stages_place_of (fV 0) (fCons (fV 4) fNil))) (fDrop ((fM "list" appendD (fFld 0 "rows" (fV 0)) (fCons (fTup (fCons (fV 3) (fCons (fV 5) (fCons (fComp (fSrc (fCall 2 m_after_hits (fCons (fV 1) (fCons (fV 2) fNil)))) [6] (gN 6) fYes (fMeth 0 "place_of" 2 m_Stages_place_of (fV 0) (fCons (fV 6) fNil))) fNil)))) fNil))))))) 1000000))))
def m_Stages_init : FF := callF 7 b_Stages_init
/-! is_integer -/
abbrev s_is_integer : Stmt := top 8
theorem sc_is_integer : FnScope ["value"] ["value"] (defScope s_is_integer) := ⟨rfl, rfl, rfl, by decide +kernel, rfl, by decide +kernel, by decide +kernel⟩
def b_is_integer : FS := (fRet ((fAndV (fC isiD (fCons (fV 0) (fCons (fK (.ty "int")) fNil))) (fNotV (fC isiD (fCons (fV 0) (fCons (fK (.ty "bool")) fNil)))))))
def m_is_integer : FF := callF 1 b_is_integer
/-! is_between -/
abbrev s_is_between : Stmt := top 9
theorem sc_is_between : FnScope ["value", "least", "greatest"] ["value", "least", "greatest"] (defScope s_is_between) := ⟨rfl, rfl, rfl, by decide +kernel, rfl, by decide +kernel, by decide +kernel⟩
def b_is_between : FS := (fRet ((fAndV (fCall 1 m_is_integer (fCons (fV 0) fNil)) (fChain leD leD (fV 1) (fV 0) (fV 2)))))
def m_is_between : FF := callF 3 b_is_between
/-! is_row -/
abbrev s_is_row : Stmt := top 10
theorem sc_is_row : FnScope ["value", "lines", "states", "state"] ["value", "lines", "states"] (defScope s_is_row) := ⟨rfl, rfl, rfl, by decide +kernel, rfl, by decide +kernel, by decide +kernel⟩
def b_is_row : FS := (fSeq (fIfS ((fOrT (fNotT (fTr (fC isiD (fCons (fV 0) (fCons (fK (.ty "tuple")) fNil))))) (fOrT (fB (fO (eqD true) (fC lenE (fCons (fV 0) fNil)) (fK (.int 3)))) (fNotT (fTr (fCall 3 m_is_between (fCons (fO ixE (fV 0) (fK (.int 0))) (fCons (fK (.int 0)) (fCons (fO subD (fV 1) (fK (.int 1))) fNil))))))))) (fRet (fK (.bl false))) fEnd) (fSeq (fIfS ((fOrT (fNotT (fTr (fCall 3 m_is_between (fCons (fO ixE (fV 0) (fK (.int 1))) (fCons (fK (.int 0)) (fCons (fO subD (fV 2) (fK (.int 1))) fNil)))))) (fOrT (fNotT (fTr (fC isiD (fCons (fO ixE (fV 0) (fK (.int 2))) (fCons (fK (.ty "tuple")) fNil))))) (fB (fO (eqD true) (fC lenE (fCons (fO ixE (fV 0) (fK (.int 2))) fNil)) (fV 1)))))) (fRet (fK (.bl false))) fEnd) (fRet (fC allD (fCons (fComp (fSrc (fO ixE (fV 0) (fK (.int 2)))) [3] (gN 3) fYes (fCall 3 m_is_between (fCons (fV 3) (fCons (fK (.int 0)) (fCons (fO subD (fV 2) (fK (.int 1))) fNil))))) fNil)))))
def m_is_row : FF := callF 4 b_is_row
/-! is_policy -/
abbrev s_is_policy : Stmt := top 11
theorem sc_is_policy : FnScope ["value", "lines", "rows", "row"] ["value"] (defScope s_is_policy) := ⟨rfl, rfl, rfl, by decide +kernel, rfl, by decide +kernel, by decide +kernel⟩
def b_is_policy : FS := (fSeq (fIfS ((fOrT (fNotT (fTr (fC isiD (fCons (fV 0) (fCons (fK (.ty "tuple")) fNil))))) (fOrT (fB (fO (eqD true) (fC lenE (fCons (fV 0) fNil)) (fK (.int 2)))) (fNotT (fTr (fCall 3 m_is_between (fCons (fO ixE (fV 0) (fK (.int 0))) (fCons (fK (.int 1)) (fCons (fK c_MOST_LINES) fNil))))))))) (fRet (fK (.bl false))) fEnd) (fSeq (fAsg (fV 0) (gOr (gT 2 (gsCons (gN 1) (gsCons (gN 2) gsNil))) (gL 2 (gsCons (gN 1) (gsCons (gN 2) gsNil))))) (fSeq (fIfS ((fOrT (fNotT (fTr (fC isiD (fCons (fV 2) (fCons (fK (.ty "tuple")) fNil))))) (fNotT (fB (fChain leD leD (fK (.int 1)) (fC lenE (fCons (fV 2) fNil)) (fK c_MOST_STATES)))))) (fRet (fK (.bl false))) fEnd) (fRet (fC allD (fCons (fComp (fSrc (fV 2)) [3] (gN 3) fYes (fCall 3 m_is_row (fCons (fV 3) (fCons (fV 1) (fCons (fC lenE (fCons (fV 2) fNil)) fNil))))) fNil))))))
def m_is_policy : FF := callF 4 b_is_policy
/-! check_policy -/
abbrev s_check_policy : Stmt := top 12
theorem sc_check_policy : FnScope ["policy"] ["policy"] (defScope s_check_policy) := ⟨rfl, rfl, rfl, by decide +kernel, rfl, by decide +kernel, by decide +kernel⟩
def b_check_policy : FS := (fIfS (fNotT (fTr (fCall 1 m_is_policy (fCons (fV 0) fNil)))) (fNo) fEnd)
def m_check_policy : FF := callF 1 b_check_policy
/-! plain -/
abbrev s_plain : Stmt := top 20
theorem sc_plain : FnScope ["policy", "stages", "classes", "order", "known", "lines", "rows", "number", "index", "place", "after", "hits", "goals", "state", "filled", "goal"] ["policy"] (defScope s_plain) := ⟨rfl, rfl, rfl, by decide +kernel, rfl, by decide +kernel, by decide +kernel⟩
def b_plain : FS := (fSeq (fDrop (fCall 1 m_check_policy (fCons (fV 0) fNil))) (fSeq (fSet 1 (fMake 0 2 m_Stages_init (fCons (fV 0) fNil))) (fSeq (fSet 2 (fCall 1 m_classes_of (fCons (fV 1) fNil))) (fSeq (fAsg (fCall 2 m_firsts_of (fCons (fV 1) (fCons (fV 2) fNil))) (gOr (gT 2 (gsCons (gN 3) (gsCons (gN 4) gsNil))) (gL 2 (gsCons (gN 3) (gsCons (gN 4) gsNil))))) (fSeq (fIfS (fB (fO gtD (fC lenE (fCons (fV 3) fNil)) (fK c_MOST_STATES))) (fNo) fEnd) (fSeq (fSet 5 (fC maxD (fCons (fComp (fSrc (fFld 0 "order" (fV 1))) [13, 14] (gOr (gT 2 (gsCons (gN 13) (gsCons (gN 14) gsNil))) (gL 2 (gsCons (gN 13) (gsCons (gN 14) gsNil)))) fYes (fC lenE (fCons (fV 14) fNil))) fNil))) (fSeq (fSet 6 (fLst fNil)) (fSeq (fFor (fEnum (fV 3)) (gOr (gT 2 (gsCons (gN 7) (gsCons (gN 8) gsNil))) (gL 2 (gsCons (gN 7) (gsCons (gN 8) gsNil)))) (fSeq (fAsg (fO ixE (fFld 0 "rows" (fV 1)) (fV 8)) (gOr (gT 3 (gsCons (gN 9) (gsCons (gN 10) (gsCons (gN 11) gsNil)))) (gL 3 (gsCons (gN 9) (gsCons (gN 10) (gsCons (gN 11) gsNil)))))) (fSeq (fSet 12 (fComp (fSrc (fV 11)) [15] (gN 15) fYes (fO ixE (fV 4) (fO ixE (fV 2) (fV 15))))) (fDrop ((fM "list" appendD (fV 6) (fCons (fTup (fCons (fV 9) (fCons (fO ixE (fV 4) (fO ixE (fV 2) (fV 10))) (fCons (fC tupD (fCons (fO addD (fV 12) (fO mulD (fLst (fCons (fV 7) fNil)) (fO subD (fV 5) (fC lenE (fCons (fV 12) fNil))))) fNil)) fNil)))) fNil))))))) (fRet (fTup (fCons (fV 5) (fCons (fC tupD (fCons (fV 6) fNil)) fNil))))))))))))
def m_plain : FF := callF 16 b_plain
/-! _law_unlike -/
abbrev s__law_unlike : Stmt := top 29
theorem sc__law_unlike : FnScope ["_law_rows", "_law_pairs", "_law_found", "_law_mine", "_law_two", "_law_before", "_law_left", "_law_pair"] ["_law_rows"] (defScope s__law_unlike) := ⟨rfl, rfl, rfl, by decide +kernel, rfl, by decide +kernel, by decide +kernel⟩
def b__law_unlike : FS := (fSeq (fAsg (fTup (fCons (fLst fNil) (fCons (fDNew) fNil))) (gOr (gT 2 (gsCons (gN 1) (gsCons (gN 2) gsNil))) (gL 2 (gsCons (gN 1) (gsCons (gN 2) gsNil))))) (fSeq (lockS 0 (fFor (fKeysN (fV 0)) (gN 3) (fDrop ((fM "list" extendD (fV 1) (fCons (fComp (fKeysN (fV 0)) [4] (gN 4) fYes (fTup (fCons (fV 3) (fCons (fV 4) fNil)))) fNil)))))) (fSeq (fFor (fSrc (fV 1)) (gOr (gT 2 (gsCons (gN 3) (gsCons (gN 4) gsNil))) (gL 2 (gsCons (gN 3) (gsCons (gN 4) gsNil)))) (fIfS ((fOrT (fB (fO (eqD true) (fC lenE (fCons (fO ixE (fV 3) (fK (.int 1))) fNil)) (fC lenE (fCons (fO ixE (fV 4) (fK (.int 1))) fNil)))) (fB (fO (eqD true) (fO ixE (fO ixE (fV 0) (fV 3)) (fK (.int 0))) (fO ixE (fO ixE (fV 0) (fV 4)) (fK (.int 0))))))) (fAsg (fK (.bl true)) (gSE (fV 2) (fTup (fCons (fV 3) (fCons (fV 4) fNil))))) fEnd)) (fSeq (fSet 5 (fO subD (fK (.int 0)) (fK (.int 1)))) (fSeq (whileF (fB (fO ltD (fV 5) (fC lenE (fCons (fV 2) fNil)))) (fSeq (fSet 5 (fC lenE (fCons (fV 2) fNil))) (fSeq (fSet 6 (fComp (fSrc (fV 1)) [7] (gN 7) (fB (fO (inE true) (fV 7) (fV 2))) (fV 7))) (fFor (fSrc (fV 6)) (gOr (gT 2 (gsCons (gN 3) (gsCons (gN 4) gsNil))) (gL 2 (gsCons (gN 3) (gsCons (gN 4) gsNil)))) (fIfS (fTr (fC anyD (fCons (fComp (fZipN (fO ixE (fO ixE (fV 0) (fV 3)) (fK (.int 1))) (fO ixE (fO ixE (fV 0) (fV 4)) (fK (.int 1)))) [7] (gN 7) fYes (fO (inE false) (fV 7) (fV 2))) fNil))) (fAsg (fK (.bl true)) (gSE (fV 2) (fTup (fCons (fV 3) (fCons (fV 4) fNil))))) fEnd)))) 1000000) (fRet (fV 2)))))))
def m__law_unlike : FF := callF 8 b__law_unlike
/-! _law_stages -/
abbrev s__law_stages : Stmt := top 28
theorem sc__law_stages : FnScope ["_law_table", "_law_begin", "_law_found", "_law_seen", "_law_queue_here", "_law_at", "_law_state", "_law_filled", "_law_victim", "_law_behind", "_law_hits", "_law_place", "_law_goals", "_law_goal", "_law_line"] ["_law_table"] (defScope s__law_stages) := ⟨rfl, rfl, rfl, by decide +kernel, rfl, by decide +kernel, by decide +kernel⟩
def b__law_stages : FS := (fSeq (fSet 1 (fTup (fCons (fK (.int 0)) (fCons (fTup fNil) fNil)))) (fSeq (fAsg (fTup (fCons (fDNew) (fCons (fOr (fDict1N (fV 1) (fK (.bl true))) (fDict1K (fV 1) (fK (.bl true)))) (fCons (fLst (fCons (fV 1) fNil)) (fCons (fK (.int 0)) fNil))))) (gOr (gT 4 (gsCons (gN 2) (gsCons (gN 3) (gsCons (gN 4) (gsCons (gN 5) gsNil))))) (gL 4 (gsCons (gN 2) (gsCons (gN 3) (gsCons (gN 4) (gsCons (gN 5) gsNil))))))) (fSeq (whileF (fB (fO ltD (fV 5) (fC lenE (fCons (fV 4) fNil)))) (fSeq (fAsg (fO ixE (fV 4) (fV 5)) (gOr (gT 2 (gsCons (gN 6) (gsCons (gN 7) gsNil))) (gL 2 (gsCons (gN 6) (gsCons (gN 7) gsNil))))) (fSeq (fAsg (fO ixE (fO ixE (fV 0) (fK (.int 1))) (fV 6)) (gOr (gT 3 (gsCons (gN 8) (gsCons (gN 9) (gsCons (gN 10) gsNil)))) (gL 3 (gsCons (gN 8) (gsCons (gN 9) (gsCons (gN 10) gsNil)))))) (fSeq (fSet 11 (fIf (fB (fO (inE false) (fV 8) (fV 7))) (fOr (fM "list" indexD (fV 7) (fCons (fV 8) fNil)) (fM "tuple" tindexD (fV 7) (fCons (fV 8) fNil))) (fC lenE (fCons (fV 7) fNil)))) (fSeq (fSet 12 (fLst (fCons (fTup (fCons (fV 9) (fCons (fIf (fB (fO (inE false) (fV 8) (fV 7))) (fV 7) (fO addD (fV 7) (fTup (fCons (fV 8) fNil)))) fNil))) fNil))) (fSeq (fDrop ((fM "list" extendD (fV 12) (fCons (fComp (fSrc (fV 7)) [14] (gN 14) fYes (fTup (fCons (fO ixE (fV 10) (fV 14)) (fCons (fV 7) fNil)))) fNil)))) (fSeq (fAsg (fTup (fCons (fV 11) (fCons (fV 12) fNil))) (gSE (fV 2) (fO ixE (fV 4) (fV 5)))) (fSeq (fFor (fSrc (fV 12)) (gN 13) (fIfS (fB (fO (inE true) (fV 13) (fV 3))) (fSeq (fAsg (fK (.bl true)) (gSE (fV 3) (fV 13))) (fDrop ((fM "list" appendD (fV 4) (fCons (fV 13) fNil))))) fEnd)) (fSet 5 (fO addD (fV 5) (fK (.int 1))))))))))) 1000000) (fRet (fV 2)))))
def m__law_stages : FF := callF 15 b__law_stages
/-! _law_plain -/
abbrev s__law_plain : Stmt := top 30
theorem sc__law_plain : FnScope ["_law_table", "_law_rows", "_law_unlike_here", "_law_firsts", "_law_at", "_law_told", "_law_lines", "_law_place", "_law_goals", "_law_numbers", "_law_goal", "_law_near", "_law_spot", "_law_k"] ["_law_table"] (defScope s__law_plain) := ⟨rfl, rfl, rfl, by decide +kernel, rfl, by decide +kernel, by decide +kernel⟩
def b__law_plain : FS := (fSeq (fSet 1 (fCall 1 m__law_stages (fCons (fV 0) fNil))) (fSeq (fAsg (fTup (fCons (fCall 1 m__law_unlike (fCons (fV 1) fNil)) (fCons (fLst (fCons (fTup (fCons (fK (.int 0)) (fCons (fTup fNil) fNil))) fNil)) (fCons (fK (.int 0)) fNil)))) (gOr (gT 3 (gsCons (gN 2) (gsCons (gN 3) (gsCons (gN 4) gsNil)))) (gL 3 (gsCons (gN 2) (gsCons (gN 3) (gsCons (gN 4) gsNil)))))) (fSeq (fSet 5 (fLst fNil)) (fSeq (fSet 6 (fC maxD (fCons (lockE 1 (fComp (fKeysN (fV 1)) [12] (gN 12) fYes (fC lenE (fCons (fO ixE (fV 12) (fK (.int 1))) fNil)))) fNil))) (fSeq (whileF (fB (fO ltD (fV 4) (fC lenE (fCons (fV 3) fNil)))) (fSeq (fAsg (fO ixE (fV 1) (fO ixE (fV 3) (fV 4))) (gOr (gT 2 (gsCons (gN 7) (gsCons (gN 8) gsNil))) (gL 2 (gsCons (gN 7) (gsCons (gN 8) gsNil))))) (fSeq (fSet 9 (fLst fNil)) (fSeq (fFor (fSrc (fV 8)) (gN 10) (fSeq (fSet 11 (fComp (fRng1 (fC lenE (fCons (fV 3) fNil))) [13] (gN 13) (fB (fO (inE true) (fTup (fCons (fV 10) (fCons (fO ixE (fV 3) (fV 13)) fNil))) (fV 2))) (fV 13))) (fSeq (fIfS (fB (fO (eqD false) (fV 11) (fLst fNil))) (fSeq (fDrop ((fM "list" appendD (fV 3) (fCons (fV 10) fNil)))) (fSet 11 (fLst (fCons (fO subD (fC lenE (fCons (fV 3) fNil)) (fK (.int 1))) fNil)))) fEnd) (fDrop ((fM "list" appendD (fV 9) (fCons (fO ixE (fV 11) (fK (.int 0))) fNil))))))) (fSeq (fDrop ((fM "list" appendD (fV 5) (fCons (fTup (fCons (fV 7) (fCons (fO ixE (fV 9) (fK (.int 0))) (fCons (fC tupD (fCons (fO addD (fSl (fV 9) (fP (fK (.int 1))) fNoP) (fO mulD (fLst (fCons (fV 4) fNil)) (fO subD (fO addD (fV 6) (fK (.int 1))) (fC lenE (fCons (fV 9) fNil))))) fNil)) fNil)))) fNil)))) (fSet 4 (fO addD (fV 4) (fK (.int 1)))))))) 1000000) (fRet (fTup (fCons (fV 6) (fCons (fC tupD (fCons (fV 5) fNil)) fNil)))))))))
def m__law_plain : FF := callF 14 b__law_plain
/-! _law_asked -/
abbrev s__law_asked : Stmt := top 31
theorem sc__law_asked : FnScope ["_law_table", "_law_due", "_law_shown", "_law_told"] ["_law_table"] (defScope s__law_asked) := ⟨rfl, rfl, rfl, by decide +kernel, rfl, by decide +kernel, by decide +kernel⟩
def b__law_asked : FS := (fSeq (fPar [1, 2] (fCons (fC reprE (fCons (fCall 1 m__law_plain (fCons (fV 0) fNil)) fNil)) (fCons (fC reprE (fCons (fV 0) fNil)) fNil))) (fSeq (fSet 3 (fCall 1 m_plain (fCons (fV 0) fNil))) (fRet (fO (eqD false) (fLst (fCons (fC reprE (fCons (fV 3) fNil)) (fCons (fC reprE (fCons (fCall 1 m_plain (fCons (fV 3) fNil)) fNil)) (fCons (fC reprE (fCons (fCallK 1 1 [0] m_plain (fCons (fV 0) fNil)) fNil)) (fCons (fC reprE (fCons (fV 0) fNil)) fNil))))) (fLst (fCons (fV 1) (fCons (fV 1) (fCons (fV 1) (fCons (fV 2) fNil)))))))))
def m__law_asked : FF := callF 4 b__law_asked
/-! _law_draw -/
abbrev s__law_draw : Stmt := top 24
theorem sc__law_draw : FnScope ["_law_pool_here", "_law_most", "_law_state", "_law_digit"] ["_law_pool_here", "_law_most"] (defScope s__law_draw) := ⟨rfl, rfl, rfl, by decide +kernel, rfl, by decide +kernel, by decide +kernel⟩
def b__law_draw : FS := (fSeq (fAsg (fO addD (fO ixE (fV 0) (fK (.int 2))) (fK (.int 1))) (gSE (fV 0) (fK (.int 2)))) (fSeq (fSet 2 (fC intD (fCons (fO ixE (fV 0) (fK (.int 0))) fNil))) (fSeq (fAsg (fO modD (fO addD (fO mulD (fV 2) (fO addD (fO modD (fV 2) (fK (.int 50021))) (fK (.int 30011)))) (fO mulD (fK (.int 80021)) (fO ixE (fV 0) (fK (.int 2))))) (fK (.int 2147483249))) (gSE (fV 0) (fK (.int 0)))) (fSeq (fIfS (fB (fO gtD (fO ixE (fV 0) (fK (.int 1))) (fK (.int 0)))) (fSeq (fAsg (fC divmodD (fCons (fO ixE (fV 0) (fK (.int 1))) (fCons (fV 1) fNil))) (gOr (gT 2 (gsCons (gSE (fV 0) (fK (.int 1))) (gsCons (gN 3) gsNil))) (gL 2 (gsCons (gSE (fV 0) (fK (.int 1))) (gsCons (gN 3) gsNil))))) (fRet (fV 3))) fEnd) (fRet (fO modD (fO fdivD (fO ixE (fV 0) (fK (.int 0))) (fK (.int 64))) (fV 1)))))))
def m__law_draw : FF := callF 4 b__law_draw
/-! _law_policy -/
abbrev s__law_policy : Stmt := top 25
theorem sc__law_policy : FnScope ["_law_pool_here", "_law_lines", "_law_states", "_law_rows", "_law_turn", "_law_hits", "_law_line"] ["_law_pool_here", "_law_lines", "_law_states"] (defScope s__law_policy) := ⟨rfl, rfl, rfl, by decide +kernel, rfl, by decide +kernel, by decide +kernel⟩
def b__law_policy : FS := (fSeq (fSet 3 (fLst fNil)) (fSeq (fFor (fRng1 (fV 2)) (gN 4) (fSeq (fSet 5 (fC tupD (fCons (fComp (fRng1 (fV 1)) [6] (gN 6) fYes (fCall 2 m__law_draw (fCons (fV 0) (fCons (fV 2) fNil)))) fNil))) (fDrop ((fM "list" appendD (fV 3) (fCons (fTup (fCons (fCall 2 m__law_draw (fCons (fV 0) (fCons (fV 1) fNil))) (fCons (fCall 2 m__law_draw (fCons (fV 0) (fCons (fV 2) fNil))) (fCons (fV 5) fNil)))) fNil)))))) (fRet (fTup (fCons (fV 1) (fCons (fC tupD (fCons (fV 3) fNil)) fNil))))))
def m__law_policy : FF := callF 7 b__law_policy
/-! _law_right -/
abbrev s__law_right : Stmt := top 32
theorem sc__law_right : FnScope ["_law_pool_here", "_law_turn", "_law_lines"] ["_law_pool_here"] (defScope s__law_right) := ⟨rfl, rfl, rfl, by decide +kernel, rfl, by decide +kernel, by decide +kernel⟩
def b__law_right : FS := (fSeq (fFor (fRng1 (fK (.int 3))) (gN 1) (fSeq (fSet 2 (fO addD (fK (.int 1)) (fCall 2 m__law_draw (fCons (fV 0) (fCons (fK (.int 3)) fNil))))) (fIfS (fNotT (fTr (fCall 1 m__law_asked (fCons (fCall 3 m__law_policy (fCons (fV 0) (fCons (fV 2) (fCons (fO addD (fK (.int 1)) (fCall 2 m__law_draw (fCons (fV 0) (fCons (fK (.int 5)) fNil)))) fNil)))) fNil)))) (fRet (fK (.bl false))) fEnd))) (fRet (fCall 1 m__law_asked (fCons (fCall 3 m__law_policy (fCons (fV 0) (fCons (fK (.int 4)) (fCons (fO addD (fK (.int 1)) (fCall 2 m__law_draw (fCons (fV 0) (fCons (fK (.int 3)) fNil)))) fNil)))) fNil))))
def m__law_right : FF := callF 3 b__law_right
/-! _law_pool -/
abbrev s__law_pool : Stmt := top 23
theorem sc__law_pool : FnScope ["_law_figure", "_law_digits"] ["_law_figure"] (defScope s__law_pool) := ⟨rfl, rfl, rfl, by decide +kernel, rfl, by decide +kernel, by decide +kernel⟩
def b__law_pool : FS := (fSeq (fSet 1 (fIf ((fOrT (fB (fO ltD (fV 0) (fK (.int 0)))) (fB (fO geD (fV 0) (fO powD (fK (.int 10)) (fK (.int 18))))))) (fC absD (fCons (fV 0) fNil)) (fK (.int 0)))) (fRet (fLst (fCons (fO modD (fC intD (fCons (fV 0) fNil)) (fK (.int 2147483249))) (fCons (fV 1) (fCons (fK (.int 0)) fNil))))))
def m__law_pool : FF := callF 2 b__law_pool
/-! _law_cell -/
abbrev s__law_cell : Stmt := top 22
theorem sc__law_cell : FnScope ["_law_script", "_law_k", "_law_state", "_law_figure"] ["_law_script", "_law_k"] (defScope s__law_cell) := ⟨rfl, rfl, rfl, by decide +kernel, rfl, by decide +kernel, by decide +kernel⟩
def b__law_cell : FS := (fSeq (fIfS (fB (fO ltD (fV 1) (fC lenE (fCons (fV 0) fNil)))) (fRet (fC intD (fCons (fO ixE (fV 0) (fV 1)) fNil))) fEnd) (fSeq (fSet 2 (fO modD (fO mulD (fK (.int 60013)) (fO addD (fO addD (fO mulD (fV 1) (fV 1)) (fO mulD (fK (.int 5)) (fV 1))) (fK (.int 3)))) (fK (.int 2147483249)))) (fSeq (fFor (fSrc (fSl (fV 0) fNoP (fP (fK (.int 3))))) (gN 3) (fSet 2 (fO modD (fO addD (fO mulD (fV 2) (fK (.int 41221))) (fC intD (fCons (fV 3) fNil))) (fK (.int 2147483249))))) (fRet (fV 2)))))
def m__law_cell : FF := callF 4 b__law_cell
/-! _law_recent -/
abbrev s__law_recent : Stmt := top 26
theorem sc__law_recent : FnScope ["_law_lines", "_law_orders", "_law_rows", "_law_at", "_law_here", "_law_goals", "_law_line", "_law_spot", "_law_goal"] ["_law_lines"] (defScope s__law_recent) := ⟨rfl, rfl, rfl, by decide +kernel, rfl, by decide +kernel, by decide +kernel⟩
def b__law_recent : FS := (fSeq (fAsg (fTup (fCons (fLst (fCons (fTupR (fRg1 (fV 0))) fNil)) (fCons (fLst fNil) (fCons (fK (.int 0)) fNil)))) (gOr (gT 3 (gsCons (gN 1) (gsCons (gN 2) (gsCons (gN 3) gsNil)))) (gL 3 (gsCons (gN 1) (gsCons (gN 2) (gsCons (gN 3) gsNil)))))) (fSeq (whileF (fB (fO ltD (fV 3) (fC lenE (fCons (fV 1) fNil)))) (fSeq (fSet 4 (fO ixE (fV 1) (fV 3))) (fSeq (fSet 5 (fComp (fRng1 (fV 0)) [6] (gN 6) fYes (fO addD (fC tupD (fCons (fComp (fSrc (fV 4)) [7] (gN 7) (fB (fO (eqD true) (fV 7) (fV 6))) (fV 7)) fNil)) (fTup (fCons (fV 6) fNil))))) (fSeq (fDrop ((fM "list" extendD (fV 1) (fCons (fComp (fSrc (fV 5)) [8] (gN 8) (fB (fO (inE true) (fV 8) (fV 1))) (fV 8)) fNil)))) (fSeq (fDrop ((fM "list" appendD (fV 2) (fCons (fTup (fCons (fO ixE (fV 4) (fK (.int 0))) (fCons (fOr (fM "list" indexD (fV 1) (fCons (fO ixE (fV 5) (fO ixE (fV 4) (fK (.int 0)))) fNil)) (fM "tuple" tindexD (fV 1) (fCons (fO ixE (fV 5) (fO ixE (fV 4) (fK (.int 0)))) fNil))) (fCons (fC tupD (fCons (fComp (fSrc (fV 5)) [8] (gN 8) fYes (fOr (fM "list" indexD (fV 1) (fCons (fV 8) fNil)) (fM "tuple" tindexD (fV 1) (fCons (fV 8) fNil)))) fNil)) fNil)))) fNil)))) (fSet 3 (fO addD (fV 3) (fK (.int 1)))))))) 1000000) (fRet (fTup (fCons (fV 0) (fCons (fC tupD (fCons (fV 2) fNil)) fNil))))))
def m__law_recent : FF := callF 9 b__law_recent
/-! _law_queue -/
abbrev s__law_queue : Stmt := top 27
theorem sc__law_queue : FnScope ["_law_lines", "_law_at"] ["_law_lines"] (defScope s__law_queue) := ⟨rfl, rfl, rfl, by decide +kernel, rfl, by decide +kernel, by decide +kernel⟩
def b__law_queue : FS := (fRet (fTup (fCons (fV 0) (fCons (fC tupD (fCons (fComp (fRng1 (fV 0)) [1] (gN 1) fYes (fTup (fCons (fV 1) (fCons (fO modD (fO addD (fV 1) (fK (.int 1))) (fV 0)) (fCons (fO mulD (fTup (fCons (fV 1) fNil)) (fV 0)) fNil))))) fNil)) fNil))))
def m__law_queue : FF := callF 2 b__law_queue
/-! law -/
abbrev s_law : Stmt := top 33
theorem sc_law : FnScope ["_law_script", "_law_lines", "_law_k"] ["_law_script"] (defScope s_law) := ⟨rfl, rfl, rfl, by decide +kernel, rfl, by decide +kernel, by decide +kernel⟩
def b_law : FS := (fSeq (fIfS (fNotT (fTr (fC allD (fCons (fComp (fSrc (fLst (fCons (fK (.int 1)) (fCons (fK (.int 2)) (fCons (fK (.int 3)) fNil))))) [1] (gN 1) fYes ((fAndV (fCall 1 m__law_asked (fCons (fCall 1 m__law_recent (fCons (fV 1) fNil)) fNil)) (fCall 1 m__law_asked (fCons (fCall 1 m__law_queue (fCons (fV 1) fNil)) fNil))))) fNil)))) (fRet (fK (.bl false))) fEnd) (fRet (fC allD (fCons (fComp (fRng1 (fC maxD (fCons (fK (.int 2)) (fCons (fC minD (fCons (fC lenE (fCons (fV 0) fNil)) (fCons (fK (.int 5)) fNil))) fNil)))) [2] (gN 2) fYes (fCall 1 m__law_right (fCons (fCall 1 m__law_pool (fCons (fCall 2 m__law_cell (fCons (fV 0) (fCons (fV 2) fNil))) fNil)) fNil))) fNil))))
def m_law : FF := callF 3 b_law
structure Top (K : Frg) (mg : Str → Option Value) where
  C_Stages : Addr
  f_firsts_of : Addr
  d_firsts_of : FuncData
  F_firsts_of : Fun K "firsts_of" "firsts_of" s_firsts_of f_firsts_of d_firsts_of
  b_firsts_of : Binds K d_firsts_of ["stages", "classes"] []
  m_firsts_of : mg "firsts_of" = some (.ref f_firsts_of)
  f_numbered : Addr
  d_numbered : FuncData
  F_numbered : Fun K "numbered" "numbered" s_numbered f_numbered d_numbered
  b_numbered : Binds K d_numbered ["keys"] []
  m_numbered : mg "numbered" = some (.ref f_numbered)
  f_classes_of : Addr
  d_classes_of : FuncData
  F_classes_of : Fun K "classes_of" "classes_of" s_classes_of f_classes_of d_classes_of
  b_classes_of : Binds K d_classes_of ["stages"] []
  m_classes_of : mg "classes_of" = some (.ref f_classes_of)
  f_after_hits : Addr
  d_after_hits : FuncData
  F_after_hits : Fun K "after_hits" "after_hits" s_after_hits f_after_hits d_after_hits
  b_after_hits : Binds K d_after_hits ["policy", "stage"] []
  m_after_hits : mg "after_hits" = some (.ref f_after_hits)
  f_Stages_place_of : Addr
  d_Stages_place_of : FuncData
  F_Stages_place_of : Fun K "place_of" "Stages.place_of" s_Stages_place_of f_Stages_place_of d_Stages_place_of
  b_Stages_place_of : Binds K d_Stages_place_of ["self", "stage"] []
  me_Stages_place_of : Meth K C_Stages "place_of" f_Stages_place_of
  f_after_miss : Addr
  d_after_miss : FuncData
  F_after_miss : Fun K "after_miss" "after_miss" s_after_miss f_after_miss d_after_miss
  b_after_miss : Binds K d_after_miss ["policy", "stage"] []
  m_after_miss : mg "after_miss" = some (.ref f_after_miss)
  f_Stages_init : Addr
  d_Stages_init : FuncData
  F_Stages_init : Fun K "__init__" "Stages.__init__" s_Stages_init f_Stages_init d_Stages_init
  b_Stages_init : Binds K d_Stages_init ["self", "policy"] []
  mk_Stages : Mk K C_Stages f_Stages_init
  f_is_integer : Addr
  d_is_integer : FuncData
  F_is_integer : Fun K "is_integer" "is_integer" s_is_integer f_is_integer d_is_integer
  b_is_integer : Binds K d_is_integer ["value"] []
  m_is_integer : mg "is_integer" = some (.ref f_is_integer)
  f_is_between : Addr
  d_is_between : FuncData
  F_is_between : Fun K "is_between" "is_between" s_is_between f_is_between d_is_between
  b_is_between : Binds K d_is_between ["value", "least", "greatest"] []
  m_is_between : mg "is_between" = some (.ref f_is_between)
  f_is_row : Addr
  d_is_row : FuncData
  F_is_row : Fun K "is_row" "is_row" s_is_row f_is_row d_is_row
  b_is_row : Binds K d_is_row ["value", "lines", "states"] []
  m_is_row : mg "is_row" = some (.ref f_is_row)
  f_is_policy : Addr
  d_is_policy : FuncData
  F_is_policy : Fun K "is_policy" "is_policy" s_is_policy f_is_policy d_is_policy
  b_is_policy : Binds K d_is_policy ["value"] []
  m_is_policy : mg "is_policy" = some (.ref f_is_policy)
  f_check_policy : Addr
  d_check_policy : FuncData
  F_check_policy : Fun K "check_policy" "check_policy" s_check_policy f_check_policy d_check_policy
  b_check_policy : Binds K d_check_policy ["policy"] []
  m_check_policy : mg "check_policy" = some (.ref f_check_policy)
  f_plain : Addr
  d_plain : FuncData
  F_plain : Fun K "plain" "plain" s_plain f_plain d_plain
  b_plain : Binds K d_plain ["policy"] []
  m_plain : mg "plain" = some (.ref f_plain)
  f__law_unlike : Addr
  d__law_unlike : FuncData
  F__law_unlike : Fun K "_law_unlike" "_law_unlike" s__law_unlike f__law_unlike d__law_unlike
  b__law_unlike : Binds K d__law_unlike ["_law_rows"] []
  m__law_unlike : mg "_law_unlike" = some (.ref f__law_unlike)
  f__law_stages : Addr
  d__law_stages : FuncData
  F__law_stages : Fun K "_law_stages" "_law_stages" s__law_stages f__law_stages d__law_stages
  b__law_stages : Binds K d__law_stages ["_law_table"] []
  m__law_stages : mg "_law_stages" = some (.ref f__law_stages)
  f__law_plain : Addr
  d__law_plain : FuncData
  F__law_plain : Fun K "_law_plain" "_law_plain" s__law_plain f__law_plain d__law_plain
  b__law_plain : Binds K d__law_plain ["_law_table"] []
  m__law_plain : mg "_law_plain" = some (.ref f__law_plain)
  f__law_asked : Addr
  d__law_asked : FuncData
  F__law_asked : Fun K "_law_asked" "_law_asked" s__law_asked f__law_asked d__law_asked
  b__law_asked : Binds K d__law_asked ["_law_table"] []
  m__law_asked : mg "_law_asked" = some (.ref f__law_asked)
  f__law_draw : Addr
  d__law_draw : FuncData
  F__law_draw : Fun K "_law_draw" "_law_draw" s__law_draw f__law_draw d__law_draw
  b__law_draw : Binds K d__law_draw ["_law_pool_here", "_law_most"] []
  m__law_draw : mg "_law_draw" = some (.ref f__law_draw)
  f__law_policy : Addr
  d__law_policy : FuncData
  F__law_policy : Fun K "_law_policy" "_law_policy" s__law_policy f__law_policy d__law_policy
  b__law_policy : Binds K d__law_policy ["_law_pool_here", "_law_lines", "_law_states"] []
  m__law_policy : mg "_law_policy" = some (.ref f__law_policy)
  f__law_right : Addr
  d__law_right : FuncData
  F__law_right : Fun K "_law_right" "_law_right" s__law_right f__law_right d__law_right
  b__law_right : Binds K d__law_right ["_law_pool_here"] []
  m__law_right : mg "_law_right" = some (.ref f__law_right)
  f__law_pool : Addr
  d__law_pool : FuncData
  F__law_pool : Fun K "_law_pool" "_law_pool" s__law_pool f__law_pool d__law_pool
  b__law_pool : Binds K d__law_pool ["_law_figure"] []
  m__law_pool : mg "_law_pool" = some (.ref f__law_pool)
  f__law_cell : Addr
  d__law_cell : FuncData
  F__law_cell : Fun K "_law_cell" "_law_cell" s__law_cell f__law_cell d__law_cell
  b__law_cell : Binds K d__law_cell ["_law_script", "_law_k"] []
  m__law_cell : mg "_law_cell" = some (.ref f__law_cell)
  f__law_recent : Addr
  d__law_recent : FuncData
  F__law_recent : Fun K "_law_recent" "_law_recent" s__law_recent f__law_recent d__law_recent
  b__law_recent : Binds K d__law_recent ["_law_lines"] []
  m__law_recent : mg "_law_recent" = some (.ref f__law_recent)
  f__law_queue : Addr
  d__law_queue : FuncData
  F__law_queue : Fun K "_law_queue" "_law_queue" s__law_queue f__law_queue d__law_queue
  b__law_queue : Binds K d__law_queue ["_law_lines"] []
  m__law_queue : mg "_law_queue" = some (.ref f__law_queue)
  f_law : Addr
  d_law : FuncData
  F_law : Fun K "law" "law" s_law f_law d_law
  b_law : Binds K d_law ["_law_script"] []
  m_law : mg "law" = some (.ref f_law)
  cl_Stages : Cls K C_Stages
  mC_Stages : mg "Stages" = some (.ref C_Stages)
  na_Stages_order : NoAttr K C_Stages "order"
  na_Stages_places : NoAttr K C_Stages "places"
  na_Stages_rows : NoAttr K C_Stages "rows"
  n_abs : mg "abs" = none
  n_all : mg "all" = none
  n_any : mg "any" = none
  n_bool : mg "bool" = none
  n_divmod : mg "divmod" = none
  n_enumerate : mg "enumerate" = none
  n_int : mg "int" = none
  n_isinstance : mg "isinstance" = none
  n_len : mg "len" = none
  n_max : mg "max" = none
  n_min : mg "min" = none
  n_range : mg "range" = none
  n_repr : mg "repr" = none
  n_set : mg "set" = none
  n_tuple : mg "tuple" = none
  n_zip : mg "zip" = none
  g_MOST_LINES : GlobIs K mg "MOST_LINES" c_MOST_LINES
  g_MOST_STATES : GlobIs K mg "MOST_STATES" c_MOST_STATES
  kw_plain_0 : KwB K d_plain ["policy"] ["policy"] [0]
def Top.ct {K : Frg} {mg : Str → Option Value} (T : Top K mg) (P : Program) (w : World) : Ct := ⟨fun n => ([some T.C_Stages] : List (Option Addr)).getD n none, P, w⟩
theorem Top.e_MOST_LINES {X : Cx} {ct : Ct} {pos : Pos} (T : Top X.K X.mg) (hg : Gl X "MOST_LINES") : SE X ct (.Name "MOST_LINES" pos) (fK c_MOST_LINES) := se_globIs hg T.g_MOST_LINES
theorem Top.e_MOST_STATES {X : Cx} {ct : Ct} {pos : Pos} (T : Top X.K X.mg) (hg : Gl X "MOST_STATES") : SE X ct (.Name "MOST_STATES" pos) (fK c_MOST_STATES) := se_globIs hg T.g_MOST_STATES
section
variable {P : Program} {w : World} {K : Frg} {mg : Str → Option Value} {base : Heap}
theorem ok_firsts_of (T : Top K mg) : FnG P w K mg base 1 T.f_firsts_of T.d_firsts_of ["stages", "classes"] (spF K (T.ct P w) m_firsts_of 2) := fn_sim T.F_firsts_of sc_firsts_of fun cdv A outer s H E hr hgd =>
  (ss_cons (by exact ss_par (i := 2) (j := 3) rfl sc_firsts_of.nd rfl rfl (by decide) rfl rfl (by exact (sa_cons (by exact se_lst (by exact (sa_cons (by exact se_int) sa_nil))) (sa_cons (by exact se_dict1K (by exact se_ixE (hu65 hr) (by exact sv_l 1) (by exact se_int)) (by exact se_int)) sa_nil))) (by rfl)) (by exact (ss_cons (by exact ss_set (i := 4) sc_firsts_of.nd rfl (Or.inl rfl) (by exact se_int)) (by exact (ss_cons (by exact ss_while 1000000 PassesOwn.never (by exact st_cmp so_lt (by exact sv_l 4) (by exact se_callB sc_lenE (by rfl) (by exact T.n_len) (by decide +kernel) (by exact (sa_cons (by exact sv_l 2) sa_nil))) (nomark _)) (by exact (ss_cons (by exact ss_asg (by exact se_ixE (hu65 hr) (by exact se_fld (C := T.C_Stages) (by exact sv_l 0) rfl (by exact T.cl_Stages) (by exact T.na_Stages_rows)) (by exact se_ixE (hu65 hr) (by exact sv_l 2) (by exact sv_l 4))) (by exact (sg_or2 (sg_tup rfl (sgs_cons (by exact (sg_name (ws := [5, 6, 7]) (i := 5) sc_firsts_of.nd rfl (Or.inl rfl) (by decide))) (sgs_cons (by exact (sg_name (ws := [5, 6, 7]) (i := 6) sc_firsts_of.nd rfl (Or.inl rfl) (by decide))) (sgs_cons (by exact (sg_name (ws := [5, 6, 7]) (i := 7) sc_firsts_of.nd rfl (Or.inl rfl) (by decide))) sgs_nil)))) (sg_unl rfl (sgs_cons (by exact (sg_name (ws := [5, 6, 7]) (i := 5) sc_firsts_of.nd rfl (Or.inl rfl) (by decide))) (sgs_cons (by exact (sg_name (ws := [5, 6, 7]) (i := 6) sc_firsts_of.nd rfl (Or.inl rfl) (by decide))) (sgs_cons (by exact (sg_name (ws := [5, 6, 7]) (i := 7) sc_firsts_of.nd rfl (Or.inl rfl) (by decide))) sgs_nil))))))) (by exact (ss_cons (by exact ss_for PassesOwn.never rfl (by exact (si_seq (by exact se_op so_add (by exact se_lst (by exact (sa_cons (by exact sv_l 6) sa_nil))) (by exact sv_l 7)))) (by exact (sg_name (ws := [8]) (i := 8) sc_firsts_of.nd rfl (Or.inl rfl) (by decide))) (by exact (ss_one (by exact ss_if (by exact st_cmp (by exact so_notinE (hu65 hr)) (by exact se_ixE (hu65 hr) (by exact sv_l 1) (by exact sv_l 8)) (by exact sv_l 3) (by rfl)) (by exact (ss_cons (by exact ss_asg (by exact se_callB sc_lenE (by rfl) (by exact T.n_len) (by decide +kernel) (by exact (sa_cons (by exact sv_l 2) sa_nil))) (by exact (sg_subE (ws := []) (hu65 hr) (by exact sv_l 3) (by exact se_ixE (hu65 hr) (by exact sv_l 1) (by exact sv_l 8))))) (by exact (ss_one (by exact ss_expr (by exact (se_bm PySem.F.plainAttrs_list PySem.F.slot_list_append PySem.F.type_list_append sm_append (by exact sv_l 2) (by exact (sa_cons (by exact sv_l 8) sa_nil))))))))) (by exact ss_nil))))) (by exact (ss_one (by exact ss_aug (i := 4) sc_firsts_of.nd rfl (Or.inl rfl) (by exact se_int) ip_add)))))))) (by exact (ss_one (by exact ss_ret (by exact se_tup (by exact (sa_cons (by exact sv_l 2) (sa_cons (by exact sv_l 3) sa_nil))))))))))))
theorem ok_numbered (T : Top K mg) : FnG P w K mg base 1 T.f_numbered T.d_numbered ["keys"] (spF K (T.ct P w) m_numbered 1) := fn_sim T.F_numbered sc_numbered fun cdv A outer s H E hr hgd =>
  (ss_cons (by exact ss_set (i := 1) sc_numbered.nd rfl (Or.inl rfl) (by exact se_dnew)) (by exact (ss_cons (by exact ss_set (i := 2) sc_numbered.nd rfl (Or.inl rfl) (by exact se_lst (by exact sa_nil))) (by exact (ss_cons (by exact ss_for PassesOwn.never rfl (by exact (si_seq (by exact sv_l 0))) (by exact (sg_name (ws := [3]) (i := 3) sc_numbered.nd rfl (Or.inl rfl) (by decide))) (by exact (ss_cons (by exact ss_if (by exact st_cmp (by exact so_notinE (hu65 hr)) (by exact sv_l 3) (by exact sv_l 1) (by rfl)) (by exact (ss_one (by exact ss_asg (by exact se_callB sc_lenE (by rfl) (by exact T.n_len) (by decide +kernel) (by exact (sa_cons (by exact sv_l 1) sa_nil))) (by exact (sg_subE (ws := []) (hu65 hr) (by exact sv_l 1) (by exact sv_l 3)))))) (by exact ss_nil)) (by exact (ss_one (by exact ss_expr (by exact (se_bm PySem.F.plainAttrs_list PySem.F.slot_list_append PySem.F.type_list_append sm_append (by exact sv_l 2) (by exact (sa_cons (by exact se_ixE (hu65 hr) (by exact sv_l 1) (by exact sv_l 3)) sa_nil)))))))))) (by exact (ss_one (by exact ss_ret (by exact sv_l 2)))))))))
theorem ok_classes_of (T : Top K mg) : FnG P w K mg base 2 T.f_classes_of T.d_classes_of ["stages"] (spF K (T.ct P w) m_classes_of 1) := fn_sim T.F_classes_of sc_classes_of fun cdv A outer s H E hr hgd =>
  (ss_cons (by exact ss_set (i := 1) sc_classes_of.nd rfl (Or.inr rfl) (by exact se_call (ps := ["keys"]) (by exact ok_numbered T) (by exact hr.mono (by decide)) (by exact hgd) (by rfl) (by exact T.m_numbered) (by exact T.F_numbered.kp) (by exact T.b_numbered) (by exact (sa_cons (by exact se_comp (own := [("stage", 6), ("row", 5)]) rfl sc_classes_of.nd (by exact (si_zip rfl (by exact T.n_zip) (by exact se_fld (C := T.C_Stages) (by exact sv_l 0) rfl (by exact T.cl_Stages) (by exact T.na_Stages_order)) (by exact se_fld (C := T.C_Stages) (by exact sv_l 0) rfl (by exact T.cl_Stages) (by exact T.na_Stages_rows)))) (blkOk_by (N := ["stages", "found", "count", "keys", "own", "row", "stage", "goal"]) (sc := defScope s_classes_of) (own := [("stage", 6), ("row", 5)]) (by decide +kernel)) (fun _ _ _ _ _ => (by exact (sg_or2 (sg_tup rfl (sgs_cons (by exact (sg_name (ws := [6, 5]) (i := 6) sc_classes_of.nd rfl (Or.inl rfl) (by decide))) (sgs_cons (by exact (sg_name (ws := [6, 5]) (i := 5) sc_classes_of.nd rfl (Or.inl rfl) (by decide))) sgs_nil))) (sg_unl rfl (sgs_cons (by exact (sg_name (ws := [6, 5]) (i := 6) sc_classes_of.nd rfl (Or.inl rfl) (by decide))) (sgs_cons (by exact (sg_name (ws := [6, 5]) (i := 5) sc_classes_of.nd rfl (Or.inl rfl) (by decide))) sgs_nil)))))) (fun _ _ _ _ _ => sts_nil) (fun _ _ _ _ _ => (by exact se_tup (by exact (sa_cons (by exact se_callB sc_lenE (by rfl) (by exact T.n_len) (by decide +kernel) (by exact (sa_cons (by exact se_ixE (hu65 hr) (by exact sv_l 6) (by exact se_int)) sa_nil))) (sa_cons (by exact se_ixE (hu65 hr) (by exact sv_l 5) (by exact se_int)) sa_nil)))))) sa_nil)))) (by exact (ss_cons (by exact ss_set (i := 2) sc_classes_of.nd rfl (Or.inl rfl) (by exact se_int)) (by exact (ss_cons (by exact ss_while 1000000 PassesOwn.never (by exact st_cmp so_lt (by exact sv_l 2) (by exact se_callB sc_lenE (by rfl) (by exact T.n_len) (by decide +kernel) (by exact (sa_cons (by exact se_callTy (sc_setE rfl) (by rfl) (by exact T.n_set) (by decide +kernel) (by exact (sa_cons (by exact sv_c 1) sa_nil))) sa_nil))) (nomark _)) (by exact (ss_cons (by exact ss_set (i := 2) sc_classes_of.nd rfl (Or.inl rfl) (by exact se_callB sc_lenE (by rfl) (by exact T.n_len) (by decide +kernel) (by exact (sa_cons (by exact se_callTy (sc_setE rfl) (by rfl) (by exact T.n_set) (by decide +kernel) (by exact (sa_cons (by exact sv_c 1) sa_nil))) sa_nil)))) (by exact (ss_cons (by exact ss_set (i := 3) sc_classes_of.nd rfl (Or.inl rfl) (by exact se_lst (by exact sa_nil))) (by exact (ss_cons (by exact ss_for PassesOwn.never rfl (by exact (si_zip rfl (by exact T.n_zip) (by exact sv_c 1) (by exact se_fld (C := T.C_Stages) (by exact sv_l 0) rfl (by exact T.cl_Stages) (by exact T.na_Stages_rows)))) (by exact (sg_or2 (sg_tup rfl (sgs_cons (by exact (sg_name (ws := [4, 5]) (i := 4) sc_classes_of.nd rfl (Or.inl rfl) (by decide))) (sgs_cons (by exact (sg_name (ws := [4, 5]) (i := 5) sc_classes_of.nd rfl (Or.inl rfl) (by decide))) sgs_nil))) (sg_unl rfl (sgs_cons (by exact (sg_name (ws := [4, 5]) (i := 4) sc_classes_of.nd rfl (Or.inl rfl) (by decide))) (sgs_cons (by exact (sg_name (ws := [4, 5]) (i := 5) sc_classes_of.nd rfl (Or.inl rfl) (by decide))) sgs_nil))))) (by exact (ss_one (by exact ss_expr (by exact (se_bm PySem.F.plainAttrs_list PySem.F.slot_list_append PySem.F.type_list_append sm_append (by exact sv_l 3) (by exact (sa_cons (by exact se_tup (by exact (sa_cons (by exact sv_l 4) (sa_cons (by exact se_ixE (hu65 hr) (by exact sv_c 1) (by exact se_ixE (hu65 hr) (by exact sv_l 5) (by exact se_int))) (sa_cons (by exact se_callTy sc_tuple (by rfl) (by exact T.n_tuple) (by decide +kernel) (by exact (sa_cons (by exact se_comp (own := [("goal", 7)]) rfl sc_classes_of.nd (by exact (si_seq (by exact se_ixE (hu65 hr) (by exact sv_l 5) (by exact se_int)))) (blkOk_by (N := ["stages", "found", "count", "keys", "own", "row", "stage", "goal"]) (sc := defScope s_classes_of) (own := [("goal", 7)]) (by decide +kernel)) (fun _ _ _ _ _ => (by exact (sg_name (ws := [7]) (i := 7) sc_classes_of.nd rfl (Or.inl rfl) (by decide)))) (fun _ _ _ _ _ => sts_nil) (fun _ _ _ _ _ => (by exact se_ixE (hu65 hr) (by exact sv_f 1) (by exact sv_l 7)))) sa_nil))) sa_nil))))) sa_nil)))))))) (by exact (ss_one (by exact ss_set (i := 1) sc_classes_of.nd rfl (Or.inr rfl) (by exact se_call (ps := ["keys"]) (by exact ok_numbered T) (by exact hr.mono (by decide)) (by exact hgd) (by rfl) (by exact T.m_numbered) (by exact T.F_numbered.kp) (by exact T.b_numbered) (by exact (sa_cons (by exact sv_l 3) sa_nil))))))))))))) (by exact (ss_one (by exact ss_ret (by exact sv_c 1)))))))))
theorem ok_after_hits (T : Top K mg) : FnG P w K mg base 1 T.f_after_hits T.d_after_hits ["policy", "stage"] (spF K (T.ct P w) m_after_hits 2) := fn_sim T.F_after_hits sc_after_hits fun cdv A outer s H E hr hgd =>
  (ss_cons (by exact ss_asg (by exact sv_l 1) (by exact (sg_or2 (sg_tup rfl (sgs_cons (by exact (sg_name (ws := [2, 3]) (i := 2) sc_after_hits.nd rfl (Or.inl rfl) (by decide))) (sgs_cons (by exact (sg_name (ws := [2, 3]) (i := 3) sc_after_hits.nd rfl (Or.inr rfl) (by decide))) sgs_nil))) (sg_unl rfl (sgs_cons (by exact (sg_name (ws := [2, 3]) (i := 2) sc_after_hits.nd rfl (Or.inl rfl) (by decide))) (sgs_cons (by exact (sg_name (ws := [2, 3]) (i := 3) sc_after_hits.nd rfl (Or.inr rfl) (by decide))) sgs_nil)))))) (by exact (ss_cons (by exact ss_set (i := 4) sc_after_hits.nd rfl (Or.inr rfl) (by exact se_ixE (hu65 hr) (by exact se_ixE (hu65 hr) (by exact se_ixE (hu65 hr) (by exact sv_l 0) (by exact se_int)) (by exact sv_l 2)) (by exact se_int))) (by exact (ss_one (by exact ss_ret (by exact se_comp (own := [("line", 5)]) rfl sc_after_hits.nd (by exact (si_seq (by exact sv_c 3))) (blkOk_by (N := ["policy", "stage", "state", "filled", "hits", "line"]) (sc := defScope s_after_hits) (own := [("line", 5)]) (by decide +kernel)) (fun _ _ _ _ _ => (by exact (sg_name (ws := [5]) (i := 5) sc_after_hits.nd rfl (Or.inl rfl) (by decide)))) (fun _ _ _ _ _ => sts_nil) (fun _ _ _ _ _ => (by exact se_tup (by exact (sa_cons (by exact se_ixE (hu65 hr) (by exact sv_f 4) (by exact sv_l 5)) (sa_cons (by exact sv_f 3) sa_nil))))))))))))
theorem ok_Stages_place_of (T : Top K mg) : FnG P w K mg base 1 T.f_Stages_place_of T.d_Stages_place_of ["self", "stage"] (spF K (T.ct P w) m_Stages_place_of 2) := fn_sim T.F_Stages_place_of sc_Stages_place_of fun cdv A outer s H E hr hgd =>
  (ss_cons (by exact ss_if (by exact st_cmp (by exact so_notinE (hu65 hr)) (by exact sv_l 1) (by exact se_fld (C := T.C_Stages) (by exact sv_l 0) rfl (by exact T.cl_Stages) (by exact T.na_Stages_places)) (by rfl)) (by exact (ss_cons (by exact ss_asg (by exact se_callB sc_lenE (by rfl) (by exact T.n_len) (by decide +kernel) (by exact (sa_cons (by exact se_fld (C := T.C_Stages) (by exact sv_l 0) rfl (by exact T.cl_Stages) (by exact T.na_Stages_order)) sa_nil))) (by exact (sg_subE (ws := []) (hu65 hr) (by exact se_fld (C := T.C_Stages) (by exact sv_l 0) rfl (by exact T.cl_Stages) (by exact T.na_Stages_places)) (by exact sv_l 1)))) (by exact (ss_one (by exact ss_expr (by exact (se_bm PySem.F.plainAttrs_list PySem.F.slot_list_append PySem.F.type_list_append sm_append (by exact se_fld (C := T.C_Stages) (by exact sv_l 0) rfl (by exact T.cl_Stages) (by exact T.na_Stages_order)) (by exact (sa_cons (by exact sv_l 1) sa_nil))))))))) (by exact ss_nil)) (by exact (ss_one (by exact ss_ret (by exact se_ixE (hu65 hr) (by exact se_fld (C := T.C_Stages) (by exact sv_l 0) rfl (by exact T.cl_Stages) (by exact T.na_Stages_places)) (by exact sv_l 1))))))
theorem ok_after_miss (T : Top K mg) : FnG P w K mg base 1 T.f_after_miss T.d_after_miss ["policy", "stage"] (spF K (T.ct P w) m_after_miss 2) := fn_sim T.F_after_miss sc_after_miss fun cdv A outer s H E hr hgd =>
  (ss_cons (by exact ss_asg (by exact sv_l 1) (by exact (sg_or2 (sg_tup rfl (sgs_cons (by exact (sg_name (ws := [2, 3]) (i := 2) sc_after_miss.nd rfl (Or.inl rfl) (by decide))) (sgs_cons (by exact (sg_name (ws := [2, 3]) (i := 3) sc_after_miss.nd rfl (Or.inl rfl) (by decide))) sgs_nil))) (sg_unl rfl (sgs_cons (by exact (sg_name (ws := [2, 3]) (i := 2) sc_after_miss.nd rfl (Or.inl rfl) (by decide))) (sgs_cons (by exact (sg_name (ws := [2, 3]) (i := 3) sc_after_miss.nd rfl (Or.inl rfl) (by decide))) sgs_nil)))))) (by exact (ss_cons (by exact ss_asg (by exact se_ixE (hu65 hr) (by exact se_ixE (hu65 hr) (by exact sv_l 0) (by exact se_int)) (by exact sv_l 2)) (by exact (sg_or2 (sg_tup rfl (sgs_cons (by exact (sg_name (ws := [4, 5, 6]) (i := 4) sc_after_miss.nd rfl (Or.inl rfl) (by decide))) (sgs_cons (by exact (sg_name (ws := [4, 5, 6]) (i := 5) sc_after_miss.nd rfl (Or.inl rfl) (by decide))) (sgs_cons (by exact (sg_name (ws := [4, 5, 6]) (i := 6) sc_after_miss.nd rfl (Or.inl rfl) (by decide))) sgs_nil)))) (sg_unl rfl (sgs_cons (by exact (sg_name (ws := [4, 5, 6]) (i := 4) sc_after_miss.nd rfl (Or.inl rfl) (by decide))) (sgs_cons (by exact (sg_name (ws := [4, 5, 6]) (i := 5) sc_after_miss.nd rfl (Or.inl rfl) (by decide))) (sgs_cons (by exact (sg_name (ws := [4, 5, 6]) (i := 6) sc_after_miss.nd rfl (Or.inl rfl) (by decide))) sgs_nil))))))) (by exact (ss_cons (by exact ss_if (by exact st_cmp (by exact so_inE (hu65 hr)) (by exact sv_l 4) (by exact sv_l 3) (by rfl)) (by exact (ss_one (by exact ss_ret (by exact se_tup (by exact (sa_cons (by exact se_or2 (se_bm PySem.F.plainAttrs_list PySem.F.slot_list_index PySem.F.type_list_index (sm_index (hu65 hr)) (by exact sv_l 3) (by exact (sa_cons (by exact sv_l 4) sa_nil))) (se_bm PySem.F.plainAttrs_tuple PySem.F.slot_tuple_index PySem.F.type_tuple_index sm_tindex (by exact sv_l 3) (by exact (sa_cons (by exact sv_l 4) sa_nil)))) (sa_cons (by exact se_tup (by exact (sa_cons (by exact sv_l 5) (sa_cons (by exact sv_l 3) sa_nil)))) sa_nil))))))) (by exact ss_nil)) (by exact (ss_one (by exact ss_ret (by exact se_tup (by exact (sa_cons (by exact se_callB sc_lenE (by rfl) (by exact T.n_len) (by decide +kernel) (by exact (sa_cons (by exact sv_l 3) sa_nil))) (sa_cons (by exact se_tup (by exact (sa_cons (by exact sv_l 5) (sa_cons (by exact se_tup (by exact (sa_starE (by exact sv_l 3) (sa_cons (by exact sv_l 4) sa_nil)))) sa_nil)))) sa_nil))))))))))))
theorem ok_Stages_init (T : Top K mg) : FnG P w K mg base 2 T.f_Stages_init T.d_Stages_init ["self", "policy"] (spF K (T.ct P w) m_Stages_init 2) := fn_sim T.F_Stages_init sc_Stages_init fun cdv A outer s H E hr hgd =>
  (ss_cons (by exact ss_fld (C := T.C_Stages) (by exact sv_c 0) (by exact se_lst (by exact (sa_cons (by exact se_tup (by exact (sa_cons (by exact se_int) (sa_cons (by exact se_tup (by exact sa_nil)) sa_nil)))) sa_nil))) rfl (by exact T.cl_Stages) (by exact T.na_Stages_order)) (by exact (ss_cons (by exact ss_fld (C := T.C_Stages) (by exact sv_c 0) (by exact se_dict1N (hu65 hr) (by exact se_tup (by exact (sa_cons (by exact se_int) (sa_cons (by exact se_tup (by exact sa_nil)) sa_nil)))) (by exact se_int)) rfl (by exact T.cl_Stages) (by exact T.na_Stages_places)) (by exact (ss_cons (by exact ss_fld (C := T.C_Stages) (by exact sv_c 0) (by exact se_lst (by exact sa_nil)) rfl (by exact T.cl_Stages) (by exact T.na_Stages_rows)) (by exact (ss_one (by exact ss_while 1000000 PassesOwn.never (by exact st_cmp so_lt (by exact se_callB sc_lenE (by rfl) (by exact T.n_len) (by decide +kernel) (by exact (sa_cons (by exact se_fld (C := T.C_Stages) (by exact sv_c 0) rfl (by exact T.cl_Stages) (by exact T.na_Stages_rows)) sa_nil))) (by exact se_callB sc_lenE (by rfl) (by exact T.n_len) (by decide +kernel) (by exact (sa_cons (by exact se_fld (C := T.C_Stages) (by exact sv_c 0) rfl (by exact T.cl_Stages) (by exact T.na_Stages_order)) sa_nil))) (nomark _)) (by exact (ss_cons (by exact ss_set (i := 2) sc_Stages_init.nd rfl (Or.inl rfl) (by exact se_ixE (hu65 hr) (by exact se_fld (C := T.C_Stages) (by exact sv_c 0) rfl (by exact T.cl_Stages) (by exact T.na_Stages_order)) (by exact se_callB sc_lenE (by rfl) (by exact T.n_len) (by decide +kernel) (by exact (sa_cons (by exact se_fld (C := T.C_Stages) (by exact sv_c 0) rfl (by exact T.cl_Stages) (by exact T.na_Stages_rows)) sa_nil))))) (by exact (ss_cons (by exact ss_asg (by exact se_call (ps := ["policy", "stage"]) (by exact ok_after_miss T) (by exact hr.mono (by decide)) (by exact hgd) (by rfl) (by exact T.m_after_miss) (by exact T.F_after_miss.kp) (by exact T.b_after_miss) (by exact (sa_cons (by exact sv_l 1) (sa_cons (by exact sv_l 2) sa_nil)))) (by exact (sg_or2 (sg_tup rfl (sgs_cons (by exact (sg_name (ws := [3, 4]) (i := 3) sc_Stages_init.nd rfl (Or.inl rfl) (by decide))) (sgs_cons (by exact (sg_name (ws := [3, 4]) (i := 4) sc_Stages_init.nd rfl (Or.inl rfl) (by decide))) sgs_nil))) (sg_unl rfl (sgs_cons (by exact (sg_name (ws := [3, 4]) (i := 3) sc_Stages_init.nd rfl (Or.inl rfl) (by decide))) (sgs_cons (by exact (sg_name (ws := [3, 4]) (i := 4) sc_Stages_init.nd rfl (Or.inl rfl) (by decide))) sgs_nil)))))) (by exact (ss_cons (by exact ss_set (i := 5) sc_Stages_init.nd rfl (Or.inl rfl) (by exact se_meth (ps := ["self", "stage"]) (C := T.C_Stages) (by exact sv_c 0) rfl (by exact T.cl_Stages) (by exact T.me_Stages_place_of) (by exact ok_Stages_place_of T) (by exact hr.mono (by decide)) (by exact hgd) (by exact T.b_Stages_place_of) (by exact (sa_cons (by exact sv_l 4) sa_nil)))) (by exact (ss_one (by exact ss_expr (by exact (se_bm PySem.F.plainAttrs_list PySem.F.slot_list_append PySem.F.type_list_append sm_append (by exact se_fld (C := T.C_Stages) (by exact sv_c 0) rfl (by exact T.cl_Stages) (by exact T.na_Stages_rows)) (by exact (sa_cons (by exact se_tup (by exact (sa_cons (by exact sv_l 3) (sa_cons (by exact sv_l 5) (sa_cons (by exact se_comp (own := [("goal", 6)]) rfl sc_Stages_init.nd (by exact (si_seq (by exact se_call (ps := ["policy", "stage"]) (by exact ok_after_hits T) (by exact hr.mono (by decide)) (by exact hgd) (by rfl) (by exact T.m_after_hits) (by exact T.F_after_hits.kp) (by exact T.b_after_hits) (by exact (sa_cons (by exact sv_l 1) (sa_cons (by exact sv_l 2) sa_nil)))))) (blkOk_by (N := ["self", "policy", "stage", "place", "behind", "after", "goal"]) (sc := defScope s_Stages_init) (own := [("goal", 6)]) (by decide +kernel)) (fun _ _ _ _ _ => (by exact (sg_name (ws := [6]) (i := 6) sc_Stages_init.nd rfl (Or.inl rfl) (by decide)))) (fun _ _ _ _ _ => sts_nil) (fun _ _ _ _ _ => (by exact se_meth (ps := ["self", "stage"]) (C := T.C_Stages) (by exact sv_f 0) rfl (by exact T.cl_Stages) (by exact T.me_Stages_place_of) (by exact ok_Stages_place_of T) (by exact hr.mono (by decide)) (by exact hgd) (by exact T.b_Stages_place_of) (by exact (sa_cons (by exact sv_l 6) sa_nil))))) sa_nil))))) sa_nil)))))))))))))))))))))
theorem ok_is_integer (T : Top K mg) : FnG P w K mg base 1 T.f_is_integer T.d_is_integer ["value"] (spF K (T.ct P w) m_is_integer 1) := fn_sim T.F_is_integer sc_is_integer fun cdv A outer s H E hr hgd =>
  (ss_one (by exact ss_ret (by exact (se_and (by exact se_callB sc_isi (by rfl) (by exact T.n_isinstance) (by decide +kernel) (by exact (sa_cons (by exact sv_l 0) (sa_cons (by exact se_ty (by rfl) (by exact T.n_int) (by decide +kernel)) sa_nil)))) (se_one (by exact se_not (by exact se_callB sc_isi (by rfl) (by exact T.n_isinstance) (by decide +kernel) (by exact (sa_cons (by exact sv_l 0) (sa_cons (by exact se_ty (by rfl) (by exact T.n_bool) (by decide +kernel)) sa_nil))))))))))
theorem ok_is_between (T : Top K mg) : FnG P w K mg base 2 T.f_is_between T.d_is_between ["value", "least", "greatest"] (spF K (T.ct P w) m_is_between 3) := fn_sim T.F_is_between sc_is_between fun cdv A outer s H E hr hgd =>
  (ss_one (by exact ss_ret (by exact (se_and (by exact se_call (ps := ["value"]) (by exact ok_is_integer T) (by exact hr.mono (by decide)) (by exact hgd) (by rfl) (by exact T.m_is_integer) (by exact T.F_is_integer.kp) (by exact T.b_is_integer) (by exact (sa_cons (by exact sv_l 0) sa_nil))) (se_one (by exact se_chain so_le so_le (by exact sv_l 1) (by exact sv_l 0) (by exact sv_l 2)))))))
theorem ok_is_row (T : Top K mg) : FnG P w K mg base 3 T.f_is_row T.d_is_row ["value", "lines", "states"] (spF K (T.ct P w) m_is_row 3) := fn_sim T.F_is_row sc_is_row fun cdv A outer s H E hr hgd =>
  (ss_cons (by exact ss_if (by exact SW.st (sw_or (by exact st_not (by exact st_truth (by exact se_callB sc_isi (by rfl) (by exact T.n_isinstance) (by decide +kernel) (by exact (sa_cons (by exact sv_l 0) (sa_cons (by exact se_ty (by rfl) (by exact T.n_tuple) (by decide +kernel)) sa_nil)))))) (sw_or (by exact st_cmp (by exact so_ne hr.units) (by exact se_callB sc_lenE (by rfl) (by exact T.n_len) (by decide +kernel) (by exact (sa_cons (by exact sv_l 0) sa_nil))) (by exact se_int) (nomark _)) (sw_or1 (by exact st_not (by exact st_truth (by exact se_call (ps := ["value", "least", "greatest"]) (by exact ok_is_between T) (by exact hr.mono (by decide)) (by exact hgd) (by rfl) (by exact T.m_is_between) (by exact T.F_is_between.kp) (by exact T.b_is_between) (by exact (sa_cons (by exact se_ixE (hu65 hr) (by exact sv_l 0) (by exact se_int)) (sa_cons (by exact se_int) (sa_cons (by exact se_op so_sub (by exact sv_l 1) (by exact se_int)) sa_nil))))))))))) (by exact (ss_one (by exact ss_ret (by exact se_bl)))) (by exact ss_nil)) (by exact (ss_cons (by exact ss_if (by exact SW.st (sw_or (by exact st_not (by exact st_truth (by exact se_call (ps := ["value", "least", "greatest"]) (by exact ok_is_between T) (by exact hr.mono (by decide)) (by exact hgd) (by rfl) (by exact T.m_is_between) (by exact T.F_is_between.kp) (by exact T.b_is_between) (by exact (sa_cons (by exact se_ixE (hu65 hr) (by exact sv_l 0) (by exact se_int)) (sa_cons (by exact se_int) (sa_cons (by exact se_op so_sub (by exact sv_c 2) (by exact se_int)) sa_nil))))))) (sw_or (by exact st_not (by exact st_truth (by exact se_callB sc_isi (by rfl) (by exact T.n_isinstance) (by decide +kernel) (by exact (sa_cons (by exact se_ixE (hu65 hr) (by exact sv_l 0) (by exact se_int)) (sa_cons (by exact se_ty (by rfl) (by exact T.n_tuple) (by decide +kernel)) sa_nil)))))) (sw_or1 (by exact st_cmp (by exact so_ne hr.units) (by exact se_callB sc_lenE (by rfl) (by exact T.n_len) (by decide +kernel) (by exact (sa_cons (by exact se_ixE (hu65 hr) (by exact sv_l 0) (by exact se_int)) sa_nil))) (by exact sv_l 1) (nomark _)))))) (by exact (ss_one (by exact ss_ret (by exact se_bl)))) (by exact ss_nil)) (by exact (ss_one (by exact ss_ret (by exact se_callB (sc_all rfl) (by rfl) (by exact T.n_all) (by decide +kernel) (by exact (sa_cons (by exact se_comp (own := [("state", 3)]) rfl sc_is_row.nd (by exact (si_seq (by exact se_ixE (hu65 hr) (by exact sv_l 0) (by exact se_int)))) (blkOk_by (N := ["value", "lines", "states", "state"]) (sc := defScope s_is_row) (own := [("state", 3)]) (by decide +kernel)) (fun _ _ _ _ _ => (by exact (sg_name (ws := [3]) (i := 3) sc_is_row.nd rfl (Or.inl rfl) (by decide)))) (fun _ _ _ _ _ => sts_nil) (fun _ _ _ _ _ => (by exact se_call (ps := ["value", "least", "greatest"]) (by exact ok_is_between T) (by exact hr.mono (by decide)) (by exact hgd) (by rfl) (by exact T.m_is_between) (by exact T.F_is_between.kp) (by exact T.b_is_between) (by exact (sa_cons (by exact sv_l 3) (sa_cons (by exact se_int) (sa_cons (by exact se_op so_sub (by exact sv_f 2) (by exact se_int)) sa_nil))))))) sa_nil)))))))))
theorem ok_is_policy (T : Top K mg) : FnG P w K mg base 4 T.f_is_policy T.d_is_policy ["value"] (spF K (T.ct P w) m_is_policy 1) := fn_sim T.F_is_policy sc_is_policy fun cdv A outer s H E hr hgd =>
  (ss_cons (by exact ss_if (by exact SW.st (sw_or (by exact st_not (by exact st_truth (by exact se_callB sc_isi (by rfl) (by exact T.n_isinstance) (by decide +kernel) (by exact (sa_cons (by exact sv_l 0) (sa_cons (by exact se_ty (by rfl) (by exact T.n_tuple) (by decide +kernel)) sa_nil)))))) (sw_or (by exact st_cmp (by exact so_ne hr.units) (by exact se_callB sc_lenE (by rfl) (by exact T.n_len) (by decide +kernel) (by exact (sa_cons (by exact sv_l 0) sa_nil))) (by exact se_int) (nomark _)) (sw_or1 (by exact st_not (by exact st_truth (by exact se_call (ps := ["value", "least", "greatest"]) (by exact ok_is_between T) (by exact hr.mono (by decide)) (by exact hgd) (by rfl) (by exact T.m_is_between) (by exact T.F_is_between.kp) (by exact T.b_is_between) (by exact (sa_cons (by exact se_ixE (hu65 hr) (by exact sv_l 0) (by exact se_int)) (sa_cons (by exact se_int) (sa_cons (by exact T.e_MOST_LINES rfl) sa_nil))))))))))) (by exact (ss_one (by exact ss_ret (by exact se_bl)))) (by exact ss_nil)) (by exact (ss_cons (by exact ss_asg (by exact sv_l 0) (by exact (sg_or2 (sg_tup rfl (sgs_cons (by exact (sg_name (ws := [1, 2]) (i := 1) sc_is_policy.nd rfl (Or.inr rfl) (by decide))) (sgs_cons (by exact (sg_name (ws := [1, 2]) (i := 2) sc_is_policy.nd rfl (Or.inr rfl) (by decide))) sgs_nil))) (sg_unl rfl (sgs_cons (by exact (sg_name (ws := [1, 2]) (i := 1) sc_is_policy.nd rfl (Or.inr rfl) (by decide))) (sgs_cons (by exact (sg_name (ws := [1, 2]) (i := 2) sc_is_policy.nd rfl (Or.inr rfl) (by decide))) sgs_nil)))))) (by exact (ss_cons (by exact ss_if (by exact SW.st (sw_or (by exact st_not (by exact st_truth (by exact se_callB sc_isi (by rfl) (by exact T.n_isinstance) (by decide +kernel) (by exact (sa_cons (by exact sv_c 2) (sa_cons (by exact se_ty (by rfl) (by exact T.n_tuple) (by decide +kernel)) sa_nil)))))) (sw_or1 (by exact st_not (by exact st_chain so_le so_le (by exact se_int) (by exact se_callB sc_lenE (by rfl) (by exact T.n_len) (by decide +kernel) (by exact (sa_cons (by exact sv_c 2) sa_nil))) (by exact T.e_MOST_STATES rfl)))))) (by exact (ss_one (by exact ss_ret (by exact se_bl)))) (by exact ss_nil)) (by exact (ss_one (by exact ss_ret (by exact se_callB (sc_all rfl) (by rfl) (by exact T.n_all) (by decide +kernel) (by exact (sa_cons (by exact se_comp (own := [("row", 3)]) rfl sc_is_policy.nd (by exact (si_seq (by exact sv_c 2))) (blkOk_by (N := ["value", "lines", "rows", "row"]) (sc := defScope s_is_policy) (own := [("row", 3)]) (by decide +kernel)) (fun _ _ _ _ _ => (by exact (sg_name (ws := [3]) (i := 3) sc_is_policy.nd rfl (Or.inl rfl) (by decide)))) (fun _ _ _ _ _ => sts_nil) (fun _ _ _ _ _ => (by exact se_call (ps := ["value", "lines", "states"]) (by exact ok_is_row T) (by exact hr.mono (by decide)) (by exact hgd) (by rfl) (by exact T.m_is_row) (by exact T.F_is_row.kp) (by exact T.b_is_row) (by exact (sa_cons (by exact sv_l 3) (sa_cons (by exact sv_f 1) (sa_cons (by exact se_callB sc_lenE (by rfl) (by exact T.n_len) (by decide +kernel) (by exact (sa_cons (by exact sv_f 2) sa_nil))) sa_nil))))))) sa_nil)))))))))))
theorem ok_check_policy (T : Top K mg) : FnG P w K mg base 5 T.f_check_policy T.d_check_policy ["policy"] (spF K (T.ct P w) m_check_policy 1) := fn_sim T.F_check_policy sc_check_policy fun cdv A outer s H E hr hgd =>
  (ss_one (by exact ss_if (by exact st_not (by exact st_truth (by exact se_call (ps := ["value"]) (by exact ok_is_policy T) (by exact hr.mono (by decide)) (by exact hgd) (by rfl) (by exact T.m_is_policy) (by exact T.F_is_policy.kp) (by exact T.b_is_policy) (by exact (sa_cons (by exact sv_l 0) sa_nil))))) (by exact (ss_one (by exact ss_never))) (by exact ss_nil)))
theorem ok_plain (T : Top K mg) : FnG P w K mg base 6 T.f_plain T.d_plain ["policy"] (spF K (T.ct P w) m_plain 1) := fn_sim T.F_plain sc_plain fun cdv A outer s H E hr hgd =>
  (ss_cons (by exact ss_expr (by exact se_call (ps := ["policy"]) (by exact ok_check_policy T) (by exact hr.mono (by decide)) (by exact hgd) (by rfl) (by exact T.m_check_policy) (by exact T.F_check_policy.kp) (by exact T.b_check_policy) (by exact (sa_cons (by exact sv_l 0) sa_nil)))) (by exact (ss_cons (by exact ss_set (i := 1) sc_plain.nd rfl (Or.inl rfl) (by exact se_make (ps := ["self", "policy"]) (by exact T.mk_Stages) rfl (by exact ok_Stages_init T) (by exact hr.mono (by decide)) (by exact hgd) (by rfl) (by exact T.mC_Stages) (by exact T.b_Stages_init) (by exact (sa_cons (by exact sv_l 0) sa_nil)))) (by exact (ss_cons (by exact ss_set (i := 2) sc_plain.nd rfl (Or.inr rfl) (by exact se_call (ps := ["stages"]) (by exact ok_classes_of T) (by exact hr.mono (by decide)) (by exact hgd) (by rfl) (by exact T.m_classes_of) (by exact T.F_classes_of.kp) (by exact T.b_classes_of) (by exact (sa_cons (by exact sv_l 1) sa_nil)))) (by exact (ss_cons (by exact ss_asg (by exact se_call (ps := ["stages", "classes"]) (by exact ok_firsts_of T) (by exact hr.mono (by decide)) (by exact hgd) (by rfl) (by exact T.m_firsts_of) (by exact T.F_firsts_of.kp) (by exact T.b_firsts_of) (by exact (sa_cons (by exact sv_l 1) (sa_cons (by exact sv_c 2) sa_nil)))) (by exact (sg_or2 (sg_tup rfl (sgs_cons (by exact (sg_name (ws := [3, 4]) (i := 3) sc_plain.nd rfl (Or.inl rfl) (by decide))) (sgs_cons (by exact (sg_name (ws := [3, 4]) (i := 4) sc_plain.nd rfl (Or.inr rfl) (by decide))) sgs_nil))) (sg_unl rfl (sgs_cons (by exact (sg_name (ws := [3, 4]) (i := 3) sc_plain.nd rfl (Or.inl rfl) (by decide))) (sgs_cons (by exact (sg_name (ws := [3, 4]) (i := 4) sc_plain.nd rfl (Or.inr rfl) (by decide))) sgs_nil)))))) (by exact (ss_cons (by exact ss_if (by exact st_cmp so_gt (by exact se_callB sc_lenE (by rfl) (by exact T.n_len) (by decide +kernel) (by exact (sa_cons (by exact sv_l 3) sa_nil))) (by exact T.e_MOST_STATES rfl) (nomark _)) (by exact (ss_one (by exact ss_never))) (by exact ss_nil)) (by exact (ss_cons (by exact ss_set (i := 5) sc_plain.nd rfl (Or.inl rfl) (by exact se_callB (sc_max rfl) (by rfl) (by exact T.n_max) (by decide +kernel) (by exact (sa_cons (by exact se_comp (own := [("state", 13), ("filled", 14)]) rfl sc_plain.nd (by exact (si_seq (by exact se_fld (C := T.C_Stages) (by exact sv_l 1) rfl (by exact T.cl_Stages) (by exact T.na_Stages_order)))) (blkOk_by (N := ["policy", "stages", "classes", "order", "known", "lines", "rows", "number", "index", "place", "after", "hits", "goals", "state", "filled", "goal"]) (sc := defScope s_plain) (own := [("state", 13), ("filled", 14)]) (by decide +kernel)) (fun _ _ _ _ _ => (by exact (sg_or2 (sg_tup rfl (sgs_cons (by exact (sg_name (ws := [13, 14]) (i := 13) sc_plain.nd rfl (Or.inl rfl) (by decide))) (sgs_cons (by exact (sg_name (ws := [13, 14]) (i := 14) sc_plain.nd rfl (Or.inl rfl) (by decide))) sgs_nil))) (sg_unl rfl (sgs_cons (by exact (sg_name (ws := [13, 14]) (i := 13) sc_plain.nd rfl (Or.inl rfl) (by decide))) (sgs_cons (by exact (sg_name (ws := [13, 14]) (i := 14) sc_plain.nd rfl (Or.inl rfl) (by decide))) sgs_nil)))))) (fun _ _ _ _ _ => sts_nil) (fun _ _ _ _ _ => (by exact se_callB sc_lenE (by rfl) (by exact T.n_len) (by decide +kernel) (by exact (sa_cons (by exact sv_l 14) sa_nil))))) sa_nil)))) (by exact (ss_cons (by exact ss_set (i := 6) sc_plain.nd rfl (Or.inl rfl) (by exact se_lst (by exact sa_nil))) (by exact (ss_cons (by exact ss_for PassesOwn.never rfl (by exact (si_enum rfl (by exact T.n_enumerate) (by exact sv_l 3))) (by exact (sg_or2 (sg_tup rfl (sgs_cons (by exact (sg_name (ws := [7, 8]) (i := 7) sc_plain.nd rfl (Or.inl rfl) (by decide))) (sgs_cons (by exact (sg_name (ws := [7, 8]) (i := 8) sc_plain.nd rfl (Or.inl rfl) (by decide))) sgs_nil))) (sg_unl rfl (sgs_cons (by exact (sg_name (ws := [7, 8]) (i := 7) sc_plain.nd rfl (Or.inl rfl) (by decide))) (sgs_cons (by exact (sg_name (ws := [7, 8]) (i := 8) sc_plain.nd rfl (Or.inl rfl) (by decide))) sgs_nil))))) (by exact (ss_cons (by exact ss_asg (by exact se_ixE (hu65 hr) (by exact se_fld (C := T.C_Stages) (by exact sv_l 1) rfl (by exact T.cl_Stages) (by exact T.na_Stages_rows)) (by exact sv_l 8)) (by exact (sg_or2 (sg_tup rfl (sgs_cons (by exact (sg_name (ws := [9, 10, 11]) (i := 9) sc_plain.nd rfl (Or.inl rfl) (by decide))) (sgs_cons (by exact (sg_name (ws := [9, 10, 11]) (i := 10) sc_plain.nd rfl (Or.inl rfl) (by decide))) (sgs_cons (by exact (sg_name (ws := [9, 10, 11]) (i := 11) sc_plain.nd rfl (Or.inl rfl) (by decide))) sgs_nil)))) (sg_unl rfl (sgs_cons (by exact (sg_name (ws := [9, 10, 11]) (i := 9) sc_plain.nd rfl (Or.inl rfl) (by decide))) (sgs_cons (by exact (sg_name (ws := [9, 10, 11]) (i := 10) sc_plain.nd rfl (Or.inl rfl) (by decide))) (sgs_cons (by exact (sg_name (ws := [9, 10, 11]) (i := 11) sc_plain.nd rfl (Or.inl rfl) (by decide))) sgs_nil))))))) (by exact (ss_cons (by exact ss_setLc (i := 12) (own := [("goal", 15)]) rfl sc_plain.nd rfl rfl (sw_true rfl rfl rfl (by decide +kernel)) (by exact (si_seq (by exact sv_l 11))) (blkOk_by (N := ["policy", "stages", "classes", "order", "known", "lines", "rows", "number", "index", "place", "after", "hits", "goals", "state", "filled", "goal"]) (sc := defScope s_plain) (own := [("goal", 15)]) (by decide +kernel)) (fun _ _ _ _ _ => (by exact (sg_name (ws := [15]) (i := 15) sc_plain.nd rfl (Or.inl rfl) (by decide)))) (fun _ _ _ _ _ => sts_nil) (fun _ _ _ _ _ => (by exact se_ixE (hu65 hr) (by exact sv_f 4) (by exact se_ixE (hu65 hr) (by exact sv_f 2) (by exact sv_l 15))))) (by exact (ss_one (by exact ss_expr (by exact (se_bm PySem.F.plainAttrs_list PySem.F.slot_list_append PySem.F.type_list_append sm_append (by exact sv_l 6) (by exact (sa_cons (by exact se_tup (by exact (sa_cons (by exact sv_l 9) (sa_cons (by exact se_ixE (hu65 hr) (by exact sv_c 4) (by exact se_ixE (hu65 hr) (by exact sv_c 2) (by exact sv_l 10))) (sa_cons (by exact se_callTy sc_tuple (by rfl) (by exact T.n_tuple) (by decide +kernel) (by exact (sa_cons (by exact se_op so_add (by exact sv_l 12) (by exact se_op so_mul (by exact se_lst (by exact (sa_cons (by exact sv_l 7) sa_nil))) (by exact se_op so_sub (by exact sv_l 5) (by exact se_callB sc_lenE (by rfl) (by exact T.n_len) (by decide +kernel) (by exact (sa_cons (by exact sv_l 12) sa_nil)))))) sa_nil))) sa_nil))))) sa_nil)))))))))))) (by exact (ss_one (by exact ss_ret (by exact se_tup (by exact (sa_cons (by exact sv_l 5) (sa_cons (by exact se_callTy sc_tuple (by rfl) (by exact T.n_tuple) (by decide +kernel) (by exact (sa_cons (by exact sv_l 6) sa_nil))) sa_nil))))))))))))))))))))))
theorem ok__law_unlike (T : Top K mg) : FnG P w K mg base 1 T.f__law_unlike T.d__law_unlike ["_law_rows"] (spF K (T.ct P w) m__law_unlike 1) := fn_sim T.F__law_unlike sc__law_unlike fun cdv A outer s H E hr hgd =>
  (ss_cons (by exact ss_asg (by exact se_tup (by exact (sa_cons (by exact se_lst (by exact sa_nil)) (sa_cons (by exact se_dnew) sa_nil)))) (by exact (sg_or2 (sg_tup rfl (sgs_cons (by exact (sg_name (ws := [1, 2]) (i := 1) sc__law_unlike.nd rfl (Or.inl rfl) (by decide))) (sgs_cons (by exact (sg_name (ws := [1, 2]) (i := 2) sc__law_unlike.nd rfl (Or.inr rfl) (by decide))) sgs_nil))) (sg_unl rfl (sgs_cons (by exact (sg_name (ws := [1, 2]) (i := 1) sc__law_unlike.nd rfl (Or.inl rfl) (by decide))) (sgs_cons (by exact (sg_name (ws := [1, 2]) (i := 2) sc__law_unlike.nd rfl (Or.inr rfl) (by decide))) sgs_nil)))))) (by exact (ss_cons (by exact ss_lock (k := 0) (ss_for PassesOwn.never rfl (by exact (si_keysN (by exact sv_l 0))) (by exact (sg_name (ws := [3]) (i := 3) sc__law_unlike.nd rfl (Or.inr rfl) (by decide))) (by exact (ss_one (by exact ss_expr (by exact (se_bm PySem.F.plainAttrs_list PySem.F.slot_list_extend PySem.F.type_list_extend sm_extend (by exact sv_l 1) (by exact (sa_cons (by exact se_comp (own := [("_law_two", 4)]) rfl sc__law_unlike.nd (by exact (si_keysN (by exact sv_l 0))) (blkOk_by (N := ["_law_rows", "_law_pairs", "_law_found", "_law_mine", "_law_two", "_law_before", "_law_left", "_law_pair"]) (sc := defScope s__law_unlike) (own := [("_law_two", 4)]) (by decide +kernel)) (fun _ _ _ _ _ => (by exact (sg_name (ws := [4]) (i := 4) sc__law_unlike.nd rfl (Or.inl rfl) (by decide)))) (fun _ _ _ _ _ => sts_nil) (fun _ _ _ _ _ => (by exact se_tup (by exact (sa_cons (by exact sv_f 3) (sa_cons (by exact sv_l 4) sa_nil)))))) sa_nil))))))))) (by exact (ss_cons (by exact ss_for PassesOwn.never rfl (by exact (si_seq (by exact sv_l 1))) (by exact (sg_or2 (sg_tup rfl (sgs_cons (by exact (sg_name (ws := [3, 4]) (i := 3) sc__law_unlike.nd rfl (Or.inr rfl) (by decide))) (sgs_cons (by exact (sg_name (ws := [3, 4]) (i := 4) sc__law_unlike.nd rfl (Or.inl rfl) (by decide))) sgs_nil))) (sg_unl rfl (sgs_cons (by exact (sg_name (ws := [3, 4]) (i := 3) sc__law_unlike.nd rfl (Or.inr rfl) (by decide))) (sgs_cons (by exact (sg_name (ws := [3, 4]) (i := 4) sc__law_unlike.nd rfl (Or.inl rfl) (by decide))) sgs_nil))))) (by exact (ss_one (by exact ss_if (by exact SW.st (sw_or (by exact st_cmp (by exact so_ne hr.units) (by exact se_callB sc_lenE (by rfl) (by exact T.n_len) (by decide +kernel) (by exact (sa_cons (by exact se_ixE (hu65 hr) (by exact sv_c 3) (by exact se_int)) sa_nil))) (by exact se_callB sc_lenE (by rfl) (by exact T.n_len) (by decide +kernel) (by exact (sa_cons (by exact se_ixE (hu65 hr) (by exact sv_l 4) (by exact se_int)) sa_nil))) (nomark _)) (sw_or1 (by exact st_cmp (by exact so_ne hr.units) (by exact se_ixE (hu65 hr) (by exact se_ixE (hu65 hr) (by exact sv_l 0) (by exact sv_c 3)) (by exact se_int)) (by exact se_ixE (hu65 hr) (by exact se_ixE (hu65 hr) (by exact sv_l 0) (by exact sv_l 4)) (by exact se_int)) (nomark _))))) (by exact (ss_one (by exact ss_asg (by exact se_bl) (by exact (sg_subE (ws := []) (hu65 hr) (by exact sv_c 2) (by exact se_tup (by exact (sa_cons (by exact sv_c 3) (sa_cons (by exact sv_l 4) sa_nil))))))))) (by exact ss_nil))))) (by exact (ss_cons (by exact ss_set (i := 5) sc__law_unlike.nd rfl (Or.inl rfl) (by exact se_op so_sub (by exact se_int) (by exact se_int))) (by exact (ss_cons (by exact ss_while 1000000 PassesOwn.never (by exact st_cmp so_lt (by exact sv_l 5) (by exact se_callB sc_lenE (by rfl) (by exact T.n_len) (by decide +kernel) (by exact (sa_cons (by exact sv_c 2) sa_nil))) (nomark _)) (by exact (ss_cons (by exact ss_set (i := 5) sc__law_unlike.nd rfl (Or.inl rfl) (by exact se_callB sc_lenE (by rfl) (by exact T.n_len) (by decide +kernel) (by exact (sa_cons (by exact sv_c 2) sa_nil)))) (by exact (ss_cons (by exact ss_setLc (i := 6) (own := [("_law_pair", 7)]) rfl sc__law_unlike.nd rfl rfl (sw_true rfl rfl rfl (by decide +kernel)) (by exact (si_seq (by exact sv_l 1))) (blkOk_by (N := ["_law_rows", "_law_pairs", "_law_found", "_law_mine", "_law_two", "_law_before", "_law_left", "_law_pair"]) (sc := defScope s__law_unlike) (own := [("_law_pair", 7)]) (by decide +kernel)) (fun _ _ _ _ _ => (by exact (sg_name (ws := [7]) (i := 7) sc__law_unlike.nd rfl (Or.inl rfl) (by decide)))) (fun _ _ _ _ _ => (sts_one (by exact st_cmp (by exact so_notinE (hu65 hr)) (by exact sv_l 7) (by exact sv_f 2) (by rfl)))) (fun _ _ _ _ _ => (by exact sv_l 7))) (by exact (ss_one (by exact ss_for PassesOwn.never rfl (by exact (si_seq (by exact sv_l 6))) (by exact (sg_or2 (sg_tup rfl (sgs_cons (by exact (sg_name (ws := [3, 4]) (i := 3) sc__law_unlike.nd rfl (Or.inr rfl) (by decide))) (sgs_cons (by exact (sg_name (ws := [3, 4]) (i := 4) sc__law_unlike.nd rfl (Or.inl rfl) (by decide))) sgs_nil))) (sg_unl rfl (sgs_cons (by exact (sg_name (ws := [3, 4]) (i := 3) sc__law_unlike.nd rfl (Or.inr rfl) (by decide))) (sgs_cons (by exact (sg_name (ws := [3, 4]) (i := 4) sc__law_unlike.nd rfl (Or.inl rfl) (by decide))) sgs_nil))))) (by exact (ss_one (by exact ss_if (by exact st_truth (by exact se_callB (sc_any rfl) (by rfl) (by exact T.n_any) (by decide +kernel) (by exact (sa_cons (by exact se_comp (own := [("_law_pair", 7)]) rfl sc__law_unlike.nd (by exact (si_zipN rfl (by exact T.n_zip) (by exact se_ixE (hu65 hr) (by exact se_ixE (hu65 hr) (by exact sv_l 0) (by exact sv_c 3)) (by exact se_int)) (by exact se_ixE (hu65 hr) (by exact se_ixE (hu65 hr) (by exact sv_l 0) (by exact sv_l 4)) (by exact se_int)))) (blkOk_by (N := ["_law_rows", "_law_pairs", "_law_found", "_law_mine", "_law_two", "_law_before", "_law_left", "_law_pair"]) (sc := defScope s__law_unlike) (own := [("_law_pair", 7)]) (by decide +kernel)) (fun _ _ _ _ _ => (by exact (sg_name (ws := [7]) (i := 7) sc__law_unlike.nd rfl (Or.inl rfl) (by decide)))) (fun _ _ _ _ _ => sts_nil) (fun _ _ _ _ _ => (by exact se_cmp (by exact so_inE (hu65 hr)) (by exact sv_l 7) (by exact sv_f 2) (by rfl)))) sa_nil)))) (by exact (ss_one (by exact ss_asg (by exact se_bl) (by exact (sg_subE (ws := []) (hu65 hr) (by exact sv_c 2) (by exact se_tup (by exact (sa_cons (by exact sv_c 3) (sa_cons (by exact sv_l 4) sa_nil))))))))) (by exact ss_nil)))))))))))) (by exact (ss_one (by exact ss_ret (by exact sv_c 2)))))))))))))
theorem ok__law_stages (T : Top K mg) : FnG P w K mg base 1 T.f__law_stages T.d__law_stages ["_law_table"] (spF K (T.ct P w) m__law_stages 1) := fn_sim T.F__law_stages sc__law_stages fun cdv A outer s H E hr hgd =>
  (ss_cons (by exact ss_set (i := 1) sc__law_stages.nd rfl (Or.inl rfl) (by exact se_tup (by exact (sa_cons (by exact se_int) (sa_cons (by exact se_tup (by exact sa_nil)) sa_nil))))) (by exact (ss_cons (by exact ss_asg (by exact se_tup (by exact (sa_cons (by exact se_dnew) (sa_cons (by exact se_or2 (by exact se_dict1N (hu65 hr) (by exact sv_l 1) (by exact se_bl)) (by exact se_dict1K (by exact sv_l 1) (by exact se_bl))) (sa_cons (by exact se_lst (by exact (sa_cons (by exact sv_l 1) sa_nil))) (sa_cons (by exact se_int) sa_nil)))))) (by exact (sg_or2 (sg_tup rfl (sgs_cons (by exact (sg_name (ws := [2, 3, 4, 5]) (i := 2) sc__law_stages.nd rfl (Or.inl rfl) (by decide))) (sgs_cons (by exact (sg_name (ws := [2, 3, 4, 5]) (i := 3) sc__law_stages.nd rfl (Or.inl rfl) (by decide))) (sgs_cons (by exact (sg_name (ws := [2, 3, 4, 5]) (i := 4) sc__law_stages.nd rfl (Or.inl rfl) (by decide))) (sgs_cons (by exact (sg_name (ws := [2, 3, 4, 5]) (i := 5) sc__law_stages.nd rfl (Or.inl rfl) (by decide))) sgs_nil))))) (sg_unl rfl (sgs_cons (by exact (sg_name (ws := [2, 3, 4, 5]) (i := 2) sc__law_stages.nd rfl (Or.inl rfl) (by decide))) (sgs_cons (by exact (sg_name (ws := [2, 3, 4, 5]) (i := 3) sc__law_stages.nd rfl (Or.inl rfl) (by decide))) (sgs_cons (by exact (sg_name (ws := [2, 3, 4, 5]) (i := 4) sc__law_stages.nd rfl (Or.inl rfl) (by decide))) (sgs_cons (by exact (sg_name (ws := [2, 3, 4, 5]) (i := 5) sc__law_stages.nd rfl (Or.inl rfl) (by decide))) sgs_nil)))))))) (by exact (ss_cons (by exact ss_while 1000000 PassesOwn.never (by exact st_cmp so_lt (by exact sv_l 5) (by exact se_callB sc_lenE (by rfl) (by exact T.n_len) (by decide +kernel) (by exact (sa_cons (by exact sv_l 4) sa_nil))) (nomark _)) (by exact (ss_cons (by exact ss_asg (by exact se_ixE (hu65 hr) (by exact sv_l 4) (by exact sv_l 5)) (by exact (sg_or2 (sg_tup rfl (sgs_cons (by exact (sg_name (ws := [6, 7]) (i := 6) sc__law_stages.nd rfl (Or.inl rfl) (by decide))) (sgs_cons (by exact (sg_name (ws := [6, 7]) (i := 7) sc__law_stages.nd rfl (Or.inr rfl) (by decide))) sgs_nil))) (sg_unl rfl (sgs_cons (by exact (sg_name (ws := [6, 7]) (i := 6) sc__law_stages.nd rfl (Or.inl rfl) (by decide))) (sgs_cons (by exact (sg_name (ws := [6, 7]) (i := 7) sc__law_stages.nd rfl (Or.inr rfl) (by decide))) sgs_nil)))))) (by exact (ss_cons (by exact ss_asg (by exact se_ixE (hu65 hr) (by exact se_ixE (hu65 hr) (by exact sv_l 0) (by exact se_int)) (by exact sv_l 6)) (by exact (sg_or2 (sg_tup rfl (sgs_cons (by exact (sg_name (ws := [8, 9, 10]) (i := 8) sc__law_stages.nd rfl (Or.inl rfl) (by decide))) (sgs_cons (by exact (sg_name (ws := [8, 9, 10]) (i := 9) sc__law_stages.nd rfl (Or.inl rfl) (by decide))) (sgs_cons (by exact (sg_name (ws := [8, 9, 10]) (i := 10) sc__law_stages.nd rfl (Or.inr rfl) (by decide))) sgs_nil)))) (sg_unl rfl (sgs_cons (by exact (sg_name (ws := [8, 9, 10]) (i := 8) sc__law_stages.nd rfl (Or.inl rfl) (by decide))) (sgs_cons (by exact (sg_name (ws := [8, 9, 10]) (i := 9) sc__law_stages.nd rfl (Or.inl rfl) (by decide))) (sgs_cons (by exact (sg_name (ws := [8, 9, 10]) (i := 10) sc__law_stages.nd rfl (Or.inr rfl) (by decide))) sgs_nil))))))) (by exact (ss_cons (by exact ss_set (i := 11) sc__law_stages.nd rfl (Or.inl rfl) (by exact se_if (by exact st_cmp (by exact so_inE (hu65 hr)) (by exact sv_l 8) (by exact sv_c 7) (by rfl)) (by exact se_or2 (se_bm PySem.F.plainAttrs_list PySem.F.slot_list_index PySem.F.type_list_index (sm_index (hu65 hr)) (by exact sv_c 7) (by exact (sa_cons (by exact sv_l 8) sa_nil))) (se_bm PySem.F.plainAttrs_tuple PySem.F.slot_tuple_index PySem.F.type_tuple_index sm_tindex (by exact sv_c 7) (by exact (sa_cons (by exact sv_l 8) sa_nil)))) (by exact se_callB sc_lenE (by rfl) (by exact T.n_len) (by decide +kernel) (by exact (sa_cons (by exact sv_c 7) sa_nil))))) (by exact (ss_cons (by exact ss_set (i := 12) sc__law_stages.nd rfl (Or.inl rfl) (by exact se_lst (by exact (sa_cons (by exact se_tup (by exact (sa_cons (by exact sv_l 9) (sa_cons (by exact se_if (by exact st_cmp (by exact so_inE (hu65 hr)) (by exact sv_l 8) (by exact sv_c 7) (by rfl)) (by exact sv_c 7) (by exact se_op so_add (by exact sv_c 7) (by exact se_tup (by exact (sa_cons (by exact sv_l 8) sa_nil))))) sa_nil)))) sa_nil)))) (by exact (ss_cons (by exact ss_expr (by exact (se_bm PySem.F.plainAttrs_list PySem.F.slot_list_extend PySem.F.type_list_extend sm_extend (by exact sv_l 12) (by exact (sa_cons (by exact se_comp (own := [("_law_line", 14)]) rfl sc__law_stages.nd (by exact (si_seq (by exact sv_c 7))) (blkOk_by (N := ["_law_table", "_law_begin", "_law_found", "_law_seen", "_law_queue_here", "_law_at", "_law_state", "_law_filled", "_law_victim", "_law_behind", "_law_hits", "_law_place", "_law_goals", "_law_goal", "_law_line"]) (sc := defScope s__law_stages) (own := [("_law_line", 14)]) (by decide +kernel)) (fun _ _ _ _ _ => (by exact (sg_name (ws := [14]) (i := 14) sc__law_stages.nd rfl (Or.inl rfl) (by decide)))) (fun _ _ _ _ _ => sts_nil) (fun _ _ _ _ _ => (by exact se_tup (by exact (sa_cons (by exact se_ixE (hu65 hr) (by exact sv_f 10) (by exact sv_l 14)) (sa_cons (by exact sv_f 7) sa_nil)))))) sa_nil))))) (by exact (ss_cons (by exact ss_asg (by exact se_tup (by exact (sa_cons (by exact sv_l 11) (sa_cons (by exact sv_l 12) sa_nil)))) (by exact (sg_subE (ws := []) (hu65 hr) (by exact sv_l 2) (by exact se_ixE (hu65 hr) (by exact sv_l 4) (by exact sv_l 5))))) (by exact (ss_cons (by exact ss_for PassesOwn.never rfl (by exact (si_seq (by exact sv_l 12))) (by exact (sg_name (ws := [13]) (i := 13) sc__law_stages.nd rfl (Or.inl rfl) (by decide))) (by exact (ss_one (by exact ss_if (by exact st_cmp (by exact so_notinE (hu65 hr)) (by exact sv_l 13) (by exact sv_l 3) (by rfl)) (by exact (ss_cons (by exact ss_asg (by exact se_bl) (by exact (sg_subE (ws := []) (hu65 hr) (by exact sv_l 3) (by exact sv_l 13)))) (by exact (ss_one (by exact ss_expr (by exact (se_bm PySem.F.plainAttrs_list PySem.F.slot_list_append PySem.F.type_list_append sm_append (by exact sv_l 4) (by exact (sa_cons (by exact sv_l 13) sa_nil))))))))) (by exact ss_nil))))) (by exact (ss_one (by exact ss_set (i := 5) sc__law_stages.nd rfl (Or.inl rfl) (by exact se_op so_add (by exact sv_l 5) (by exact se_int)))))))))))))))))))) (by exact (ss_one (by exact ss_ret (by exact sv_l 2)))))))))
theorem ok__law_plain (T : Top K mg) : FnG P w K mg base 2 T.f__law_plain T.d__law_plain ["_law_table"] (spF K (T.ct P w) m__law_plain 1) := fn_sim T.F__law_plain sc__law_plain fun cdv A outer s H E hr hgd =>
  (ss_cons (by exact ss_set (i := 1) sc__law_plain.nd rfl (Or.inl rfl) (by exact se_call (ps := ["_law_table"]) (by exact ok__law_stages T) (by exact hr.mono (by decide)) (by exact hgd) (by rfl) (by exact T.m__law_stages) (by exact T.F__law_stages.kp) (by exact T.b__law_stages) (by exact (sa_cons (by exact sv_l 0) sa_nil)))) (by exact (ss_cons (by exact ss_asg (by exact se_tup (by exact (sa_cons (by exact se_call (ps := ["_law_rows"]) (by exact ok__law_unlike T) (by exact hr.mono (by decide)) (by exact hgd) (by rfl) (by exact T.m__law_unlike) (by exact T.F__law_unlike.kp) (by exact T.b__law_unlike) (by exact (sa_cons (by exact sv_l 1) sa_nil))) (sa_cons (by exact se_lst (by exact (sa_cons (by exact se_tup (by exact (sa_cons (by exact se_int) (sa_cons (by exact se_tup (by exact sa_nil)) sa_nil)))) sa_nil))) (sa_cons (by exact se_int) sa_nil))))) (by exact (sg_or2 (sg_tup rfl (sgs_cons (by exact (sg_name (ws := [2, 3, 4]) (i := 2) sc__law_plain.nd rfl (Or.inr rfl) (by decide))) (sgs_cons (by exact (sg_name (ws := [2, 3, 4]) (i := 3) sc__law_plain.nd rfl (Or.inr rfl) (by decide))) (sgs_cons (by exact (sg_name (ws := [2, 3, 4]) (i := 4) sc__law_plain.nd rfl (Or.inl rfl) (by decide))) sgs_nil)))) (sg_unl rfl (sgs_cons (by exact (sg_name (ws := [2, 3, 4]) (i := 2) sc__law_plain.nd rfl (Or.inr rfl) (by decide))) (sgs_cons (by exact (sg_name (ws := [2, 3, 4]) (i := 3) sc__law_plain.nd rfl (Or.inr rfl) (by decide))) (sgs_cons (by exact (sg_name (ws := [2, 3, 4]) (i := 4) sc__law_plain.nd rfl (Or.inl rfl) (by decide))) sgs_nil))))))) (by exact (ss_cons (by exact ss_set (i := 5) sc__law_plain.nd rfl (Or.inl rfl) (by exact se_lst (by exact sa_nil))) (by exact (ss_cons (by exact ss_set (i := 6) sc__law_plain.nd rfl (Or.inl rfl) (by exact se_callB (sc_max rfl) (by rfl) (by exact T.n_max) (by decide +kernel) (by exact (sa_cons (by exact se_lock (k := 1) (se_comp (own := [("_law_spot", 12)]) rfl sc__law_plain.nd (by exact (si_keysN (by exact sv_l 1))) (blkOk_by (N := ["_law_table", "_law_rows", "_law_unlike_here", "_law_firsts", "_law_at", "_law_told", "_law_lines", "_law_place", "_law_goals", "_law_numbers", "_law_goal", "_law_near", "_law_spot", "_law_k"]) (sc := defScope s__law_plain) (own := [("_law_spot", 12)]) (by decide +kernel)) (fun _ _ _ _ _ => (by exact (sg_name (ws := [12]) (i := 12) sc__law_plain.nd rfl (Or.inl rfl) (by decide)))) (fun _ _ _ _ _ => sts_nil) (fun _ _ _ _ _ => (by exact se_callB sc_lenE (by rfl) (by exact T.n_len) (by decide +kernel) (by exact (sa_cons (by exact se_ixE (hu65 hr) (by exact sv_l 12) (by exact se_int)) sa_nil)))))) sa_nil)))) (by exact (ss_cons (by exact ss_while 1000000 PassesOwn.never (by exact st_cmp so_lt (by exact sv_l 4) (by exact se_callB sc_lenE (by rfl) (by exact T.n_len) (by decide +kernel) (by exact (sa_cons (by exact sv_c 3) sa_nil))) (nomark _)) (by exact (ss_cons (by exact ss_asg (by exact se_ixE (hu65 hr) (by exact sv_l 1) (by exact se_ixE (hu65 hr) (by exact sv_c 3) (by exact sv_l 4))) (by exact (sg_or2 (sg_tup rfl (sgs_cons (by exact (sg_name (ws := [7, 8]) (i := 7) sc__law_plain.nd rfl (Or.inl rfl) (by decide))) (sgs_cons (by exact (sg_name (ws := [7, 8]) (i := 8) sc__law_plain.nd rfl (Or.inl rfl) (by decide))) sgs_nil))) (sg_unl rfl (sgs_cons (by exact (sg_name (ws := [7, 8]) (i := 7) sc__law_plain.nd rfl (Or.inl rfl) (by decide))) (sgs_cons (by exact (sg_name (ws := [7, 8]) (i := 8) sc__law_plain.nd rfl (Or.inl rfl) (by decide))) sgs_nil)))))) (by exact (ss_cons (by exact ss_set (i := 9) sc__law_plain.nd rfl (Or.inl rfl) (by exact se_lst (by exact sa_nil))) (by exact (ss_cons (by exact ss_for PassesOwn.never rfl (by exact (si_seq (by exact sv_l 8))) (by exact (sg_name (ws := [10]) (i := 10) sc__law_plain.nd rfl (Or.inr rfl) (by decide))) (by exact (ss_cons (by exact ss_setLc (i := 11) (own := [("_law_k", 13)]) rfl sc__law_plain.nd rfl rfl (sw_true rfl rfl rfl (by decide +kernel)) (by exact (si_range1 rfl (by exact T.n_range) (by exact se_callB sc_lenE (by rfl) (by exact T.n_len) (by decide +kernel) (by exact (sa_cons (by exact sv_c 3) sa_nil))))) (blkOk_by (N := ["_law_table", "_law_rows", "_law_unlike_here", "_law_firsts", "_law_at", "_law_told", "_law_lines", "_law_place", "_law_goals", "_law_numbers", "_law_goal", "_law_near", "_law_spot", "_law_k"]) (sc := defScope s__law_plain) (own := [("_law_k", 13)]) (by decide +kernel)) (fun _ _ _ _ _ => (by exact (sg_name (ws := [13]) (i := 13) sc__law_plain.nd rfl (Or.inl rfl) (by decide)))) (fun _ _ _ _ _ => (sts_one (by exact st_cmp (by exact so_notinE (hu65 hr)) (by exact se_tup (by exact (sa_cons (by exact sv_f 10) (sa_cons (by exact se_ixE (hu65 hr) (by exact sv_f 3) (by exact sv_l 13)) sa_nil)))) (by exact sv_f 2) (by rfl)))) (fun _ _ _ _ _ => (by exact sv_l 13))) (by exact (ss_cons (by exact ss_if (by exact st_cmp (by exact so_eq hr.units) (by exact sv_l 11) (by exact se_lst (by exact sa_nil)) (nomark _)) (by exact (ss_cons (by exact ss_expr (by exact (se_bm PySem.F.plainAttrs_list PySem.F.slot_list_append PySem.F.type_list_append sm_append (by exact sv_c 3) (by exact (sa_cons (by exact sv_c 10) sa_nil))))) (by exact (ss_one (by exact ss_set (i := 11) sc__law_plain.nd rfl (Or.inl rfl) (by exact se_lst (by exact (sa_cons (by exact se_op so_sub (by exact se_callB sc_lenE (by rfl) (by exact T.n_len) (by decide +kernel) (by exact (sa_cons (by exact sv_c 3) sa_nil))) (by exact se_int)) sa_nil)))))))) (by exact ss_nil)) (by exact (ss_one (by exact ss_expr (by exact (se_bm PySem.F.plainAttrs_list PySem.F.slot_list_append PySem.F.type_list_append sm_append (by exact sv_l 9) (by exact (sa_cons (by exact se_ixE (hu65 hr) (by exact sv_l 11) (by exact se_int)) sa_nil)))))))))))) (by exact (ss_cons (by exact ss_expr (by exact (se_bm PySem.F.plainAttrs_list PySem.F.slot_list_append PySem.F.type_list_append sm_append (by exact sv_l 5) (by exact (sa_cons (by exact se_tup (by exact (sa_cons (by exact sv_l 7) (sa_cons (by exact se_ixE (hu65 hr) (by exact sv_l 9) (by exact se_int)) (sa_cons (by exact se_callTy sc_tuple (by rfl) (by exact T.n_tuple) (by decide +kernel) (by exact (sa_cons (by exact se_op so_add (by exact se_slice (by exact sv_l 9) (by exact so_some (by exact se_int)) so_none) (by exact se_op so_mul (by exact se_lst (by exact (sa_cons (by exact sv_l 4) sa_nil))) (by exact se_op so_sub (by exact se_op so_add (by exact sv_l 6) (by exact se_int)) (by exact se_callB sc_lenE (by rfl) (by exact T.n_len) (by decide +kernel) (by exact (sa_cons (by exact sv_l 9) sa_nil)))))) sa_nil))) sa_nil))))) sa_nil))))) (by exact (ss_one (by exact ss_set (i := 4) sc__law_plain.nd rfl (Or.inl rfl) (by exact se_op so_add (by exact sv_l 4) (by exact se_int)))))))))))))) (by exact (ss_one (by exact ss_ret (by exact se_tup (by exact (sa_cons (by exact sv_l 6) (sa_cons (by exact se_callTy sc_tuple (by rfl) (by exact T.n_tuple) (by decide +kernel) (by exact (sa_cons (by exact sv_l 5) sa_nil))) sa_nil))))))))))))))))
theorem ok__law_asked (T : Top K mg) : FnG P w K mg base 7 T.f__law_asked T.d__law_asked ["_law_table"] (spF K (T.ct P w) m__law_asked 1) := fn_sim T.F__law_asked sc__law_asked fun cdv A outer s H E hr hgd =>
  (ss_cons (by exact ss_par (i := 1) (j := 2) rfl sc__law_asked.nd rfl rfl (by decide) rfl rfl (by exact (sa_cons (by exact se_callB (sc_reprE (by exact hgd) hr.units) (by rfl) (by exact T.n_repr) (by decide +kernel) (by exact (sa_cons (by exact se_call (ps := ["_law_table"]) (by exact ok__law_plain T) (by exact hr.mono (by decide)) (by exact hgd) (by rfl) (by exact T.m__law_plain) (by exact T.F__law_plain.kp) (by exact T.b__law_plain) (by exact (sa_cons (by exact sv_l 0) sa_nil))) sa_nil))) (sa_cons (by exact se_callB (sc_reprE (by exact hgd) hr.units) (by rfl) (by exact T.n_repr) (by decide +kernel) (by exact (sa_cons (by exact sv_l 0) sa_nil))) sa_nil))) (by rfl)) (by exact (ss_cons (by exact ss_set (i := 3) sc__law_asked.nd rfl (Or.inl rfl) (by exact se_call (ps := ["policy"]) (by exact ok_plain T) (by exact hr.mono (by decide)) (by exact hgd) (by rfl) (by exact T.m_plain) (by exact T.F_plain.kp) (by exact T.b_plain) (by exact (sa_cons (by exact sv_l 0) sa_nil)))) (by exact (ss_one (by exact ss_ret (by exact se_cmp (by exact so_eq hr.units) (by exact se_lst (by exact (sa_cons (by exact se_callB (sc_reprE (by exact hgd) hr.units) (by rfl) (by exact T.n_repr) (by decide +kernel) (by exact (sa_cons (by exact sv_l 3) sa_nil))) (sa_cons (by exact se_callB (sc_reprE (by exact hgd) hr.units) (by rfl) (by exact T.n_repr) (by decide +kernel) (by exact (sa_cons (by exact se_call (ps := ["policy"]) (by exact ok_plain T) (by exact hr.mono (by decide)) (by exact hgd) (by rfl) (by exact T.m_plain) (by exact T.F_plain.kp) (by exact T.b_plain) (by exact (sa_cons (by exact sv_l 3) sa_nil))) sa_nil))) (sa_cons (by exact se_callB (sc_reprE (by exact hgd) hr.units) (by rfl) (by exact T.n_repr) (by decide +kernel) (by exact (sa_cons (by exact se_callK (ps := ["policy"]) (ks := ["policy"]) (by exact ok_plain T) (by exact hr.mono (by decide)) (by exact hgd) (by rfl) (by exact T.m_plain) (by exact T.F_plain.kp) (by exact T.kw_plain_0) (sk_cons (by exact sv_l 0) sk_nil)) sa_nil))) (sa_cons (by exact se_callB (sc_reprE (by exact hgd) hr.units) (by rfl) (by exact T.n_repr) (by decide +kernel) (by exact (sa_cons (by exact sv_l 0) sa_nil))) sa_nil)))))) (by exact se_lst (by exact (sa_cons (by exact sv_l 1) (sa_cons (by exact sv_l 1) (sa_cons (by exact sv_l 1) (sa_cons (by exact sv_l 2) sa_nil)))))) (nomark _))))))))
theorem ok__law_draw (T : Top K mg) : FnG P w K mg base 1 T.f__law_draw T.d__law_draw ["_law_pool_here", "_law_most"] (spF K (T.ct P w) m__law_draw 2) := fn_sim T.F__law_draw sc__law_draw fun cdv A outer s H E hr hgd =>
  (ss_cons (by exact ss_asg (by exact se_op so_add (by exact se_ixE (hu65 hr) (by exact sv_l 0) (by exact se_int)) (by exact se_int)) (by exact (sg_subE (ws := []) (hu65 hr) (by exact sv_l 0) (by exact se_int)))) (by exact (ss_cons (by exact ss_set (i := 2) sc__law_draw.nd rfl (Or.inl rfl) (by exact se_callTy sc_int (by rfl) (by exact T.n_int) (by decide +kernel) (by exact (sa_cons (by exact se_ixE (hu65 hr) (by exact sv_l 0) (by exact se_int)) sa_nil)))) (by exact (ss_cons (by exact ss_asg (by exact se_op so_mod (by exact se_op so_add (by exact se_op so_mul (by exact sv_l 2) (by exact se_op so_add (by exact se_op so_mod (by exact sv_l 2) (by exact se_int)) (by exact se_int))) (by exact se_op so_mul (by exact se_int) (by exact se_ixE (hu65 hr) (by exact sv_l 0) (by exact se_int)))) (by exact se_int)) (by exact (sg_subE (ws := []) (hu65 hr) (by exact sv_l 0) (by exact se_int)))) (by exact (ss_cons (by exact ss_if (by exact st_cmp so_gt (by exact se_ixE (hu65 hr) (by exact sv_l 0) (by exact se_int)) (by exact se_int) (nomark _)) (by exact (ss_cons (by exact ss_asg (by exact se_callB sc_divmod (by rfl) (by exact T.n_divmod) (by decide +kernel) (by exact (sa_cons (by exact se_ixE (hu65 hr) (by exact sv_l 0) (by exact se_int)) (sa_cons (by exact sv_l 1) sa_nil)))) (by exact (sg_or2 (sg_tup rfl (sgs_cons (by exact (sg_subE (ws := [3]) (hu65 hr) (by exact sv_l 0) (by exact se_int))) (sgs_cons (by exact (sg_name (ws := [3]) (i := 3) sc__law_draw.nd rfl (Or.inl rfl) (by decide))) sgs_nil))) (sg_unl rfl (sgs_cons (by exact (sg_subE (ws := [3]) (hu65 hr) (by exact sv_l 0) (by exact se_int))) (sgs_cons (by exact (sg_name (ws := [3]) (i := 3) sc__law_draw.nd rfl (Or.inl rfl) (by decide))) sgs_nil)))))) (by exact (ss_one (by exact ss_ret (by exact sv_l 3)))))) (by exact ss_nil)) (by exact (ss_one (by exact ss_ret (by exact se_op so_mod (by exact se_op so_fdiv (by exact se_ixE (hu65 hr) (by exact sv_l 0) (by exact se_int)) (by exact se_int)) (by exact sv_l 1))))))))))))
theorem ok__law_policy (T : Top K mg) : FnG P w K mg base 2 T.f__law_policy T.d__law_policy ["_law_pool_here", "_law_lines", "_law_states"] (spF K (T.ct P w) m__law_policy 3) := fn_sim T.F__law_policy sc__law_policy fun cdv A outer s H E hr hgd =>
  (ss_cons (by exact ss_set (i := 3) sc__law_policy.nd rfl (Or.inl rfl) (by exact se_lst (by exact sa_nil))) (by exact (ss_cons (by exact ss_for PassesOwn.never rfl (by exact (si_range1 rfl (by exact T.n_range) (by exact sv_c 2))) (by exact (sg_name (ws := [4]) (i := 4) sc__law_policy.nd rfl (Or.inl rfl) (by decide))) (by exact (ss_cons (by exact ss_set (i := 5) sc__law_policy.nd rfl (Or.inl rfl) (by exact se_callTy sc_tuple (by rfl) (by exact T.n_tuple) (by decide +kernel) (by exact (sa_cons (by exact se_comp (own := [("_law_line", 6)]) rfl sc__law_policy.nd (by exact (si_range1 rfl (by exact T.n_range) (by exact sv_l 1))) (blkOk_by (N := ["_law_pool_here", "_law_lines", "_law_states", "_law_rows", "_law_turn", "_law_hits", "_law_line"]) (sc := defScope s__law_policy) (own := [("_law_line", 6)]) (by decide +kernel)) (fun _ _ _ _ _ => (by exact (sg_name (ws := [6]) (i := 6) sc__law_policy.nd rfl (Or.inl rfl) (by decide)))) (fun _ _ _ _ _ => sts_nil) (fun _ _ _ _ _ => (by exact se_call (ps := ["_law_pool_here", "_law_most"]) (by exact ok__law_draw T) (by exact hr.mono (by decide)) (by exact hgd) (by rfl) (by exact T.m__law_draw) (by exact T.F__law_draw.kp) (by exact T.b__law_draw) (by exact (sa_cons (by exact sv_f 0) (sa_cons (by exact sv_f 2) sa_nil)))))) sa_nil)))) (by exact (ss_one (by exact ss_expr (by exact (se_bm PySem.F.plainAttrs_list PySem.F.slot_list_append PySem.F.type_list_append sm_append (by exact sv_l 3) (by exact (sa_cons (by exact se_tup (by exact (sa_cons (by exact se_call (ps := ["_law_pool_here", "_law_most"]) (by exact ok__law_draw T) (by exact hr.mono (by decide)) (by exact hgd) (by rfl) (by exact T.m__law_draw) (by exact T.F__law_draw.kp) (by exact T.b__law_draw) (by exact (sa_cons (by exact sv_c 0) (sa_cons (by exact sv_l 1) sa_nil)))) (sa_cons (by exact se_call (ps := ["_law_pool_here", "_law_most"]) (by exact ok__law_draw T) (by exact hr.mono (by decide)) (by exact hgd) (by rfl) (by exact T.m__law_draw) (by exact T.F__law_draw.kp) (by exact T.b__law_draw) (by exact (sa_cons (by exact sv_c 0) (sa_cons (by exact sv_c 2) sa_nil)))) (sa_cons (by exact sv_l 5) sa_nil))))) sa_nil)))))))))) (by exact (ss_one (by exact ss_ret (by exact se_tup (by exact (sa_cons (by exact sv_l 1) (sa_cons (by exact se_callTy sc_tuple (by rfl) (by exact T.n_tuple) (by decide +kernel) (by exact (sa_cons (by exact sv_l 3) sa_nil))) sa_nil))))))))))
theorem ok__law_right (T : Top K mg) : FnG P w K mg base 8 T.f__law_right T.d__law_right ["_law_pool_here"] (spF K (T.ct P w) m__law_right 1) := fn_sim T.F__law_right sc__law_right fun cdv A outer s H E hr hgd =>
  (ss_cons (by exact ss_for PassesOwn.never rfl (by exact (si_range1 rfl (by exact T.n_range) (by exact se_int))) (by exact (sg_name (ws := [1]) (i := 1) sc__law_right.nd rfl (Or.inl rfl) (by decide))) (by exact (ss_cons (by exact ss_set (i := 2) sc__law_right.nd rfl (Or.inl rfl) (by exact se_op so_add (by exact se_int) (by exact se_call (ps := ["_law_pool_here", "_law_most"]) (by exact ok__law_draw T) (by exact hr.mono (by decide)) (by exact hgd) (by rfl) (by exact T.m__law_draw) (by exact T.F__law_draw.kp) (by exact T.b__law_draw) (by exact (sa_cons (by exact sv_l 0) (sa_cons (by exact se_int) sa_nil)))))) (by exact (ss_one (by exact ss_if (by exact st_not (by exact st_truth (by exact se_call (ps := ["_law_table"]) (by exact ok__law_asked T) (by exact hr.mono (by decide)) (by exact hgd) (by rfl) (by exact T.m__law_asked) (by exact T.F__law_asked.kp) (by exact T.b__law_asked) (by exact (sa_cons (by exact se_call (ps := ["_law_pool_here", "_law_lines", "_law_states"]) (by exact ok__law_policy T) (by exact hr.mono (by decide)) (by exact hgd) (by rfl) (by exact T.m__law_policy) (by exact T.F__law_policy.kp) (by exact T.b__law_policy) (by exact (sa_cons (by exact sv_l 0) (sa_cons (by exact sv_l 2) (sa_cons (by exact se_op so_add (by exact se_int) (by exact se_call (ps := ["_law_pool_here", "_law_most"]) (by exact ok__law_draw T) (by exact hr.mono (by decide)) (by exact hgd) (by rfl) (by exact T.m__law_draw) (by exact T.F__law_draw.kp) (by exact T.b__law_draw) (by exact (sa_cons (by exact sv_l 0) (sa_cons (by exact se_int) sa_nil))))) sa_nil))))) sa_nil))))) (by exact (ss_one (by exact ss_ret (by exact se_bl)))) (by exact ss_nil))))))) (by exact (ss_one (by exact ss_ret (by exact se_call (ps := ["_law_table"]) (by exact ok__law_asked T) (by exact hr.mono (by decide)) (by exact hgd) (by rfl) (by exact T.m__law_asked) (by exact T.F__law_asked.kp) (by exact T.b__law_asked) (by exact (sa_cons (by exact se_call (ps := ["_law_pool_here", "_law_lines", "_law_states"]) (by exact ok__law_policy T) (by exact hr.mono (by decide)) (by exact hgd) (by rfl) (by exact T.m__law_policy) (by exact T.F__law_policy.kp) (by exact T.b__law_policy) (by exact (sa_cons (by exact sv_l 0) (sa_cons (by exact se_int) (sa_cons (by exact se_op so_add (by exact se_int) (by exact se_call (ps := ["_law_pool_here", "_law_most"]) (by exact ok__law_draw T) (by exact hr.mono (by decide)) (by exact hgd) (by rfl) (by exact T.m__law_draw) (by exact T.F__law_draw.kp) (by exact T.b__law_draw) (by exact (sa_cons (by exact sv_l 0) (sa_cons (by exact se_int) sa_nil))))) sa_nil))))) sa_nil)))))))
theorem ok__law_pool (T : Top K mg) : FnG P w K mg base 1 T.f__law_pool T.d__law_pool ["_law_figure"] (spF K (T.ct P w) m__law_pool 1) := fn_sim T.F__law_pool sc__law_pool fun cdv A outer s H E hr hgd =>
  (ss_cons (by exact ss_set (i := 1) sc__law_pool.nd rfl (Or.inl rfl) (by exact se_if (by exact SW.st (sw_or (by exact st_cmp so_lt (by exact sv_l 0) (by exact se_int) (nomark _)) (sw_or1 (by exact st_cmp so_ge (by exact sv_l 0) (by exact se_op so_pow (by exact se_int) (by exact se_int)) (nomark _))))) (by exact se_callB sc_abs (by rfl) (by exact T.n_abs) (by decide +kernel) (by exact (sa_cons (by exact sv_l 0) sa_nil))) (by exact se_int))) (by exact (ss_one (by exact ss_ret (by exact se_lst (by exact (sa_cons (by exact se_op so_mod (by exact se_callTy sc_int (by rfl) (by exact T.n_int) (by decide +kernel) (by exact (sa_cons (by exact sv_l 0) sa_nil))) (by exact se_int)) (sa_cons (by exact sv_l 1) (sa_cons (by exact se_int) sa_nil)))))))))
theorem ok__law_cell (T : Top K mg) : FnG P w K mg base 1 T.f__law_cell T.d__law_cell ["_law_script", "_law_k"] (spF K (T.ct P w) m__law_cell 2) := fn_sim T.F__law_cell sc__law_cell fun cdv A outer s H E hr hgd =>
  (ss_cons (by exact ss_if (by exact st_cmp so_lt (by exact sv_l 1) (by exact se_callB sc_lenE (by rfl) (by exact T.n_len) (by decide +kernel) (by exact (sa_cons (by exact sv_l 0) sa_nil))) (nomark _)) (by exact (ss_one (by exact ss_ret (by exact se_callTy sc_int (by rfl) (by exact T.n_int) (by decide +kernel) (by exact (sa_cons (by exact se_ixE (hu65 hr) (by exact sv_l 0) (by exact sv_l 1)) sa_nil)))))) (by exact ss_nil)) (by exact (ss_cons (by exact ss_set (i := 2) sc__law_cell.nd rfl (Or.inl rfl) (by exact se_op so_mod (by exact se_op so_mul (by exact se_int) (by exact se_op so_add (by exact se_op so_add (by exact se_op so_mul (by exact sv_l 1) (by exact sv_l 1)) (by exact se_op so_mul (by exact se_int) (by exact sv_l 1))) (by exact se_int))) (by exact se_int))) (by exact (ss_cons (by exact ss_for PassesOwn.never rfl (by exact (si_seq (by exact se_slice (by exact sv_l 0) so_none (by exact so_some (by exact se_int))))) (by exact (sg_name (ws := [3]) (i := 3) sc__law_cell.nd rfl (Or.inl rfl) (by decide))) (by exact (ss_one (by exact ss_set (i := 2) sc__law_cell.nd rfl (Or.inl rfl) (by exact se_op so_mod (by exact se_op so_add (by exact se_op so_mul (by exact sv_l 2) (by exact se_int)) (by exact se_callTy sc_int (by rfl) (by exact T.n_int) (by decide +kernel) (by exact (sa_cons (by exact sv_l 3) sa_nil)))) (by exact se_int)))))) (by exact (ss_one (by exact ss_ret (by exact sv_l 2)))))))))
theorem ok__law_recent (T : Top K mg) : FnG P w K mg base 1 T.f__law_recent T.d__law_recent ["_law_lines"] (spF K (T.ct P w) m__law_recent 1) := fn_sim T.F__law_recent sc__law_recent fun cdv A outer s H E hr hgd =>
  (ss_cons (by exact ss_asg (by exact se_tup (by exact (sa_cons (by exact se_lst (by exact (sa_cons (by exact se_tupR rfl rfl (by exact T.n_tuple) (sr_1 rfl (by exact T.n_range) (by exact sv_l 0))) sa_nil))) (sa_cons (by exact se_lst (by exact sa_nil)) (sa_cons (by exact se_int) sa_nil))))) (by exact (sg_or2 (sg_tup rfl (sgs_cons (by exact (sg_name (ws := [1, 2, 3]) (i := 1) sc__law_recent.nd rfl (Or.inr rfl) (by decide))) (sgs_cons (by exact (sg_name (ws := [1, 2, 3]) (i := 2) sc__law_recent.nd rfl (Or.inl rfl) (by decide))) (sgs_cons (by exact (sg_name (ws := [1, 2, 3]) (i := 3) sc__law_recent.nd rfl (Or.inl rfl) (by decide))) sgs_nil)))) (sg_unl rfl (sgs_cons (by exact (sg_name (ws := [1, 2, 3]) (i := 1) sc__law_recent.nd rfl (Or.inr rfl) (by decide))) (sgs_cons (by exact (sg_name (ws := [1, 2, 3]) (i := 2) sc__law_recent.nd rfl (Or.inl rfl) (by decide))) (sgs_cons (by exact (sg_name (ws := [1, 2, 3]) (i := 3) sc__law_recent.nd rfl (Or.inl rfl) (by decide))) sgs_nil))))))) (by exact (ss_cons (by exact ss_while 1000000 PassesOwn.never (by exact st_cmp so_lt (by exact sv_l 3) (by exact se_callB sc_lenE (by rfl) (by exact T.n_len) (by decide +kernel) (by exact (sa_cons (by exact sv_c 1) sa_nil))) (nomark _)) (by exact (ss_cons (by exact ss_set (i := 4) sc__law_recent.nd rfl (Or.inr rfl) (by exact se_ixE (hu65 hr) (by exact sv_c 1) (by exact sv_l 3))) (by exact (ss_cons (by exact ss_setLc (i := 5) (own := [("_law_line", 6)]) rfl sc__law_recent.nd rfl rfl (sw_true rfl rfl rfl (by decide +kernel)) (by exact (si_range1 rfl (by exact T.n_range) (by exact sv_l 0))) (blkOk_by (N := ["_law_lines", "_law_orders", "_law_rows", "_law_at", "_law_here", "_law_goals", "_law_line", "_law_spot", "_law_goal"]) (sc := defScope s__law_recent) (own := [("_law_line", 6)]) (by decide +kernel)) (fun _ _ _ _ _ => (by exact (sg_name (ws := [6]) (i := 6) sc__law_recent.nd rfl (Or.inr rfl) (by decide)))) (fun _ _ _ _ _ => sts_nil) (fun _ _ _ _ _ => (by exact se_op so_add (by exact se_callTy sc_tuple (by rfl) (by exact T.n_tuple) (by decide +kernel) (by exact (sa_cons (by exact se_comp (own := [("_law_spot", 7)]) rfl sc__law_recent.nd (by exact (si_seq (by exact sv_f 4))) (blkOk_by (own := [("_law_spot", 7)]) (by first | rfl | kernel_rfl)) (fun _ _ _ _ _ => (by exact (sg_name (ws := [7]) (i := 7) sc__law_recent.nd rfl (Or.inl rfl) (by decide)))) (fun _ _ _ _ _ => (sts_one (by exact st_cmp (by exact so_ne hr.units) (by exact sv_l 7) (by exact sv_f 6) (nomark _)))) (fun _ _ _ _ _ => (by exact sv_l 7))) sa_nil))) (by exact se_tup (by exact (sa_cons (by exact sv_c 6) sa_nil)))))) (by exact (ss_cons (by exact ss_expr (by exact (se_bm PySem.F.plainAttrs_list PySem.F.slot_list_extend PySem.F.type_list_extend sm_extend (by exact sv_c 1) (by exact (sa_cons (by exact se_comp (own := [("_law_goal", 8)]) rfl sc__law_recent.nd (by exact (si_seq (by exact sv_l 5))) (blkOk_by (N := ["_law_lines", "_law_orders", "_law_rows", "_law_at", "_law_here", "_law_goals", "_law_line", "_law_spot", "_law_goal"]) (sc := defScope s__law_recent) (own := [("_law_goal", 8)]) (by decide +kernel)) (fun _ _ _ _ _ => (by exact (sg_name (ws := [8]) (i := 8) sc__law_recent.nd rfl (Or.inl rfl) (by decide)))) (fun _ _ _ _ _ => (sts_one (by exact st_cmp (by exact so_notinE (hu65 hr)) (by exact sv_l 8) (by exact sv_f 1) (by rfl)))) (fun _ _ _ _ _ => (by exact sv_l 8))) sa_nil))))) (by exact (ss_cons (by exact ss_expr (by exact (se_bm PySem.F.plainAttrs_list PySem.F.slot_list_append PySem.F.type_list_append sm_append (by exact sv_l 2) (by exact (sa_cons (by exact se_tup (by exact (sa_cons (by exact se_ixE (hu65 hr) (by exact sv_c 4) (by exact se_int)) (sa_cons (by exact se_or2 (se_bm PySem.F.plainAttrs_list PySem.F.slot_list_index PySem.F.type_list_index (sm_index (hu65 hr)) (by exact sv_c 1) (by exact (sa_cons (by exact se_ixE (hu65 hr) (by exact sv_l 5) (by exact se_ixE (hu65 hr) (by exact sv_c 4) (by exact se_int))) sa_nil))) (se_bm PySem.F.plainAttrs_tuple PySem.F.slot_tuple_index PySem.F.type_tuple_index sm_tindex (by exact sv_c 1) (by exact (sa_cons (by exact se_ixE (hu65 hr) (by exact sv_l 5) (by exact se_ixE (hu65 hr) (by exact sv_c 4) (by exact se_int))) sa_nil)))) (sa_cons (by exact se_callTy sc_tuple (by rfl) (by exact T.n_tuple) (by decide +kernel) (by exact (sa_cons (by exact se_comp (own := [("_law_goal", 8)]) rfl sc__law_recent.nd (by exact (si_seq (by exact sv_l 5))) (blkOk_by (N := ["_law_lines", "_law_orders", "_law_rows", "_law_at", "_law_here", "_law_goals", "_law_line", "_law_spot", "_law_goal"]) (sc := defScope s__law_recent) (own := [("_law_goal", 8)]) (by decide +kernel)) (fun _ _ _ _ _ => (by exact (sg_name (ws := [8]) (i := 8) sc__law_recent.nd rfl (Or.inl rfl) (by decide)))) (fun _ _ _ _ _ => sts_nil) (fun _ _ _ _ _ => (by exact se_or2 (se_bm PySem.F.plainAttrs_list PySem.F.slot_list_index PySem.F.type_list_index (sm_index (hu65 hr)) (by exact sv_f 1) (by exact (sa_cons (by exact sv_l 8) sa_nil))) (se_bm PySem.F.plainAttrs_tuple PySem.F.slot_tuple_index PySem.F.type_tuple_index sm_tindex (by exact sv_f 1) (by exact (sa_cons (by exact sv_l 8) sa_nil)))))) sa_nil))) sa_nil))))) sa_nil))))) (by exact (ss_one (by exact ss_set (i := 3) sc__law_recent.nd rfl (Or.inl rfl) (by exact se_op so_add (by exact sv_l 3) (by exact se_int)))))))))))))) (by exact (ss_one (by exact ss_ret (by exact se_tup (by exact (sa_cons (by exact sv_l 0) (sa_cons (by exact se_callTy sc_tuple (by rfl) (by exact T.n_tuple) (by decide +kernel) (by exact (sa_cons (by exact sv_l 2) sa_nil))) sa_nil))))))))))
theorem ok__law_queue (T : Top K mg) : FnG P w K mg base 1 T.f__law_queue T.d__law_queue ["_law_lines"] (spF K (T.ct P w) m__law_queue 1) := fn_sim T.F__law_queue sc__law_queue fun cdv A outer s H E hr hgd =>
  (ss_one (by exact ss_ret (by exact se_tup (by exact (sa_cons (by exact sv_c 0) (sa_cons (by exact se_callTy sc_tuple (by rfl) (by exact T.n_tuple) (by decide +kernel) (by exact (sa_cons (by exact se_comp (own := [("_law_at", 1)]) rfl sc__law_queue.nd (by exact (si_range1 rfl (by exact T.n_range) (by exact sv_c 0))) (blkOk_by (N := ["_law_lines", "_law_at"]) (sc := defScope s__law_queue) (own := [("_law_at", 1)]) (by decide +kernel)) (fun _ _ _ _ _ => (by exact (sg_name (ws := [1]) (i := 1) sc__law_queue.nd rfl (Or.inl rfl) (by decide)))) (fun _ _ _ _ _ => sts_nil) (fun _ _ _ _ _ => (by exact se_tup (by exact (sa_cons (by exact sv_l 1) (sa_cons (by exact se_op so_mod (by exact se_op so_add (by exact sv_l 1) (by exact se_int)) (by exact sv_f 0)) (sa_cons (by exact se_op so_mul (by exact se_tup (by exact (sa_cons (by exact sv_l 1) sa_nil))) (by exact sv_f 0)) sa_nil))))))) sa_nil))) sa_nil))))))
theorem ok_law (T : Top K mg) : FnG P w K mg base 9 T.f_law T.d_law ["_law_script"] (spF K (T.ct P w) m_law 1) := fn_sim T.F_law sc_law fun cdv A outer s H E hr hgd =>
  (ss_cons (by exact ss_if (by exact st_not (by exact st_truth (by exact se_callB (sc_all rfl) (by rfl) (by exact T.n_all) (by decide +kernel) (by exact (sa_cons (by exact se_comp (own := [("_law_lines", 1)]) rfl sc_law.nd (by exact (si_seq (by exact se_lst (by exact (sa_cons (by exact se_int) (sa_cons (by exact se_int) (sa_cons (by exact se_int) sa_nil))))))) (blkOk_by (N := ["_law_script", "_law_lines", "_law_k"]) (sc := defScope s_law) (own := [("_law_lines", 1)]) (by decide +kernel)) (fun _ _ _ _ _ => (by exact (sg_name (ws := [1]) (i := 1) sc_law.nd rfl (Or.inl rfl) (by decide)))) (fun _ _ _ _ _ => sts_nil) (fun _ _ _ _ _ => (by exact (se_and (by exact se_call (ps := ["_law_table"]) (by exact ok__law_asked T) (by exact hr.mono (by decide)) (by exact hgd) (by rfl) (by exact T.m__law_asked) (by exact T.F__law_asked.kp) (by exact T.b__law_asked) (by exact (sa_cons (by exact se_call (ps := ["_law_lines"]) (by exact ok__law_recent T) (by exact hr.mono (by decide)) (by exact hgd) (by rfl) (by exact T.m__law_recent) (by exact T.F__law_recent.kp) (by exact T.b__law_recent) (by exact (sa_cons (by exact sv_l 1) sa_nil))) sa_nil))) (se_one (by exact se_call (ps := ["_law_table"]) (by exact ok__law_asked T) (by exact hr.mono (by decide)) (by exact hgd) (by rfl) (by exact T.m__law_asked) (by exact T.F__law_asked.kp) (by exact T.b__law_asked) (by exact (sa_cons (by exact se_call (ps := ["_law_lines"]) (by exact ok__law_queue T) (by exact hr.mono (by decide)) (by exact hgd) (by rfl) (by exact T.m__law_queue) (by exact T.F__law_queue.kp) (by exact T.b__law_queue) (by exact (sa_cons (by exact sv_l 1) sa_nil))) sa_nil)))))))) sa_nil))))) (by exact (ss_one (by exact ss_ret (by exact se_bl)))) (by exact ss_nil)) (by exact (ss_one (by exact ss_ret (by exact se_callB (sc_all rfl) (by rfl) (by exact T.n_all) (by decide +kernel) (by exact (sa_cons (by exact se_comp (own := [("_law_k", 2)]) rfl sc_law.nd (by exact (si_range1 rfl (by exact T.n_range) (by exact se_callB (sc_max rfl) (by rfl) (by exact T.n_max) (by decide +kernel) (by exact (sa_cons (by exact se_int) (sa_cons (by exact se_callB (sc_min rfl) (by rfl) (by exact T.n_min) (by decide +kernel) (by exact (sa_cons (by exact se_callB sc_lenE (by rfl) (by exact T.n_len) (by decide +kernel) (by exact (sa_cons (by exact sv_c 0) sa_nil))) (sa_cons (by exact se_int) sa_nil)))) sa_nil)))))) (blkOk_by (N := ["_law_script", "_law_lines", "_law_k"]) (sc := defScope s_law) (own := [("_law_k", 2)]) (by decide +kernel)) (fun _ _ _ _ _ => (by exact (sg_name (ws := [2]) (i := 2) sc_law.nd rfl (Or.inl rfl) (by decide)))) (fun _ _ _ _ _ => sts_nil) (fun _ _ _ _ _ => (by exact se_call (ps := ["_law_pool_here"]) (by exact ok__law_right T) (by exact hr.mono (by decide)) (by exact hgd) (by rfl) (by exact T.m__law_right) (by exact T.F__law_right.kp) (by exact T.b__law_right) (by exact (sa_cons (by exact se_call (ps := ["_law_figure"]) (by exact ok__law_pool T) (by exact hr.mono (by decide)) (by exact hgd) (by rfl) (by exact T.m__law_pool) (by exact T.F__law_pool.kp) (by exact T.b__law_pool) (by exact (sa_cons (by exact se_call (ps := ["_law_script", "_law_k"]) (by exact ok__law_cell T) (by exact hr.mono (by decide)) (by exact hgd) (by rfl) (by exact T.m__law_cell) (by exact T.F__law_cell.kp) (by exact T.b__law_cell) (by exact (sa_cons (by exact sv_f 0) (sa_cons (by exact sv_l 2) sa_nil)))) sa_nil))) sa_nil))))) sa_nil)))))))
end
theorem all_mk {K : Frg} {h : Heap} {mg : Str → Option Value} {fa : Addr} {C_Stages : Addr} {f_firsts_of : Addr} {oc_firsts_of kV_firsts_of dc_firsts_of pm_firsts_of cd_firsts_of ct_firsts_of : Value} {od_firsts_of an_firsts_of : Option Addr} {sl_firsts_of : Array (Option Value)} {f_numbered : Addr} {oc_numbered kV_numbered dc_numbered pm_numbered cd_numbered ct_numbered : Value} {od_numbered an_numbered : Option Addr} {sl_numbered : Array (Option Value)} {f_classes_of : Addr} {oc_classes_of kV_classes_of dc_classes_of pm_classes_of cd_classes_of ct_classes_of : Value} {od_classes_of an_classes_of : Option Addr} {sl_classes_of : Array (Option Value)} {f_after_hits : Addr} {oc_after_hits kV_after_hits dc_after_hits pm_after_hits cd_after_hits ct_after_hits : Value} {od_after_hits an_after_hits : Option Addr} {sl_after_hits : Array (Option Value)} {f_Stages_place_of : Addr} {oc_Stages_place_of kV_Stages_place_of dc_Stages_place_of pm_Stages_place_of cd_Stages_place_of ct_Stages_place_of : Value} {od_Stages_place_of an_Stages_place_of : Option Addr} {sl_Stages_place_of : Array (Option Value)} {f_after_miss : Addr} {oc_after_miss kV_after_miss dc_after_miss pm_after_miss cd_after_miss ct_after_miss : Value} {od_after_miss an_after_miss : Option Addr} {sl_after_miss : Array (Option Value)} {f_Stages_init : Addr} {oc_Stages_init kV_Stages_init dc_Stages_init pm_Stages_init cd_Stages_init ct_Stages_init : Value} {od_Stages_init an_Stages_init : Option Addr} {sl_Stages_init : Array (Option Value)} {f_is_integer : Addr} {oc_is_integer kV_is_integer dc_is_integer pm_is_integer cd_is_integer ct_is_integer : Value} {od_is_integer an_is_integer : Option Addr} {sl_is_integer : Array (Option Value)} {f_is_between : Addr} {oc_is_between kV_is_between dc_is_between pm_is_between cd_is_between ct_is_between : Value} {od_is_between an_is_between : Option Addr} {sl_is_between : Array (Option Value)} {f_is_row : Addr} {oc_is_row kV_is_row dc_is_row pm_is_row cd_is_row ct_is_row : Value} {od_is_row an_is_row : Option Addr} {sl_is_row : Array (Option Value)} {f_is_policy : Addr} {oc_is_policy kV_is_policy dc_is_policy pm_is_policy cd_is_policy ct_is_policy : Value} {od_is_policy an_is_policy : Option Addr} {sl_is_policy : Array (Option Value)} {f_check_policy : Addr} {oc_check_policy kV_check_policy dc_check_policy pm_check_policy cd_check_policy ct_check_policy : Value} {od_check_policy an_check_policy : Option Addr} {sl_check_policy : Array (Option Value)} {f_plain : Addr} {oc_plain kV_plain dc_plain pm_plain cd_plain ct_plain : Value} {od_plain an_plain : Option Addr} {sl_plain : Array (Option Value)} {f__law_unlike : Addr} {oc__law_unlike kV__law_unlike dc__law_unlike pm__law_unlike cd__law_unlike ct__law_unlike : Value} {od__law_unlike an__law_unlike : Option Addr} {sl__law_unlike : Array (Option Value)} {f__law_stages : Addr} {oc__law_stages kV__law_stages dc__law_stages pm__law_stages cd__law_stages ct__law_stages : Value} {od__law_stages an__law_stages : Option Addr} {sl__law_stages : Array (Option Value)} {f__law_plain : Addr} {oc__law_plain kV__law_plain dc__law_plain pm__law_plain cd__law_plain ct__law_plain : Value} {od__law_plain an__law_plain : Option Addr} {sl__law_plain : Array (Option Value)} {f__law_asked : Addr} {oc__law_asked kV__law_asked dc__law_asked pm__law_asked cd__law_asked ct__law_asked : Value} {od__law_asked an__law_asked : Option Addr} {sl__law_asked : Array (Option Value)} {f__law_draw : Addr} {oc__law_draw kV__law_draw dc__law_draw pm__law_draw cd__law_draw ct__law_draw : Value} {od__law_draw an__law_draw : Option Addr} {sl__law_draw : Array (Option Value)} {f__law_policy : Addr} {oc__law_policy kV__law_policy dc__law_policy pm__law_policy cd__law_policy ct__law_policy : Value} {od__law_policy an__law_policy : Option Addr} {sl__law_policy : Array (Option Value)} {f__law_right : Addr} {oc__law_right kV__law_right dc__law_right pm__law_right cd__law_right ct__law_right : Value} {od__law_right an__law_right : Option Addr} {sl__law_right : Array (Option Value)} {f__law_pool : Addr} {oc__law_pool kV__law_pool dc__law_pool pm__law_pool cd__law_pool ct__law_pool : Value} {od__law_pool an__law_pool : Option Addr} {sl__law_pool : Array (Option Value)} {f__law_cell : Addr} {oc__law_cell kV__law_cell dc__law_cell pm__law_cell cd__law_cell ct__law_cell : Value} {od__law_cell an__law_cell : Option Addr} {sl__law_cell : Array (Option Value)} {f__law_recent : Addr} {oc__law_recent kV__law_recent dc__law_recent pm__law_recent cd__law_recent ct__law_recent : Value} {od__law_recent an__law_recent : Option Addr} {sl__law_recent : Array (Option Value)} {f__law_queue : Addr} {oc__law_queue kV__law_queue dc__law_queue pm__law_queue cd__law_queue ct__law_queue : Value} {od__law_queue an__law_queue : Option Addr} {sl__law_queue : Array (Option Value)} {f_law : Addr} {oc_law kV_law dc_law pm_law cd_law ct_law : Value} {od_law an_law : Option Addr} {sl_law : Array (Option Value)} {gt_MOST_LINES : Tok} {gt_MOST_STATES : Tok} (X : K.In h) (G : h.Ns mainGlobals mg) (hfa : mg "law" = some (.ref fa))
    (aC_Stages : PySem.W.nsIn K mainGlobals "Stages" = some (some (.ref C_Stages)))
    (pg_Stages : PySem.W.plainGet K C_Stages Str.empty = true)
    (hd_Stages : PySem.W.hasDictIn K C_Stages = true)
    (po_Stages : PySem.W.plainOver K C_Stages = true)
    (sa_Stages : PySem.W.findIn K (.ref C_Stages) "__setattr__" = some (some (.builtin "object.__setattr__")))
    (a_firsts_of : PySem.W.nsIn K mainGlobals "firsts_of" = some (some (.ref f_firsts_of)))
    (l_firsts_of : K.lookup f_firsts_of = some ⟨oc_firsts_of, od_firsts_of, .func (PySem.W.fnOf "firsts_of" "firsts_of" (defArgs s_firsts_of) (defBody s_firsts_of) (defScope s_firsts_of) .none kV_firsts_of dc_firsts_of pm_firsts_of an_firsts_of cd_firsts_of ct_firsts_of), sl_firsts_of⟩)
    (c_firsts_of : PySem.W.codeIn K cd_firsts_of "firsts_of" = true)
    (k_firsts_of : PySem.W.keepIn K (.ref f_firsts_of) = true)
    (a_numbered : PySem.W.nsIn K mainGlobals "numbered" = some (some (.ref f_numbered)))
    (l_numbered : K.lookup f_numbered = some ⟨oc_numbered, od_numbered, .func (PySem.W.fnOf "numbered" "numbered" (defArgs s_numbered) (defBody s_numbered) (defScope s_numbered) .none kV_numbered dc_numbered pm_numbered an_numbered cd_numbered ct_numbered), sl_numbered⟩)
    (c_numbered : PySem.W.codeIn K cd_numbered "numbered" = true)
    (k_numbered : PySem.W.keepIn K (.ref f_numbered) = true)
    (a_classes_of : PySem.W.nsIn K mainGlobals "classes_of" = some (some (.ref f_classes_of)))
    (l_classes_of : K.lookup f_classes_of = some ⟨oc_classes_of, od_classes_of, .func (PySem.W.fnOf "classes_of" "classes_of" (defArgs s_classes_of) (defBody s_classes_of) (defScope s_classes_of) .none kV_classes_of dc_classes_of pm_classes_of an_classes_of cd_classes_of ct_classes_of), sl_classes_of⟩)
    (c_classes_of : PySem.W.codeIn K cd_classes_of "classes_of" = true)
    (k_classes_of : PySem.W.keepIn K (.ref f_classes_of) = true)
    (a_after_hits : PySem.W.nsIn K mainGlobals "after_hits" = some (some (.ref f_after_hits)))
    (l_after_hits : K.lookup f_after_hits = some ⟨oc_after_hits, od_after_hits, .func (PySem.W.fnOf "after_hits" "after_hits" (defArgs s_after_hits) (defBody s_after_hits) (defScope s_after_hits) .none kV_after_hits dc_after_hits pm_after_hits an_after_hits cd_after_hits ct_after_hits), sl_after_hits⟩)
    (c_after_hits : PySem.W.codeIn K cd_after_hits "after_hits" = true)
    (k_after_hits : PySem.W.keepIn K (.ref f_after_hits) = true)
    (a_Stages_place_of : PySem.W.findIn K (.ref C_Stages) "place_of" = some (some (.ref f_Stages_place_of)))
    (i_Stages_place_of : PySem.W.isFn K (.ref f_Stages_place_of) = true)
    (l_Stages_place_of : K.lookup f_Stages_place_of = some ⟨oc_Stages_place_of, od_Stages_place_of, .func (PySem.W.fnOf "place_of" "Stages.place_of" (defArgs s_Stages_place_of) (defBody s_Stages_place_of) (defScope s_Stages_place_of) .none kV_Stages_place_of dc_Stages_place_of pm_Stages_place_of an_Stages_place_of cd_Stages_place_of ct_Stages_place_of), sl_Stages_place_of⟩)
    (c_Stages_place_of : PySem.W.codeIn K cd_Stages_place_of "Stages.place_of" = true)
    (k_Stages_place_of : PySem.W.keepIn K (.ref f_Stages_place_of) = true)
    (a_after_miss : PySem.W.nsIn K mainGlobals "after_miss" = some (some (.ref f_after_miss)))
    (l_after_miss : K.lookup f_after_miss = some ⟨oc_after_miss, od_after_miss, .func (PySem.W.fnOf "after_miss" "after_miss" (defArgs s_after_miss) (defBody s_after_miss) (defScope s_after_miss) .none kV_after_miss dc_after_miss pm_after_miss an_after_miss cd_after_miss ct_after_miss), sl_after_miss⟩)
    (c_after_miss : PySem.W.codeIn K cd_after_miss "after_miss" = true)
    (k_after_miss : PySem.W.keepIn K (.ref f_after_miss) = true)
    (a_Stages_init : PySem.W.findIn K (.ref C_Stages) "__init__" = some (some (.ref f_Stages_init)))
    (i_Stages_init : PySem.W.isFn K (.ref f_Stages_init) = true)
    (mk_Stages : PySem.W.makesIn K C_Stages = true)
    (kc_Stages : PySem.W.keepIn K (.ref C_Stages) = true)
    (l_Stages_init : K.lookup f_Stages_init = some ⟨oc_Stages_init, od_Stages_init, .func (PySem.W.fnOf "__init__" "Stages.__init__" (defArgs s_Stages_init) (defBody s_Stages_init) (defScope s_Stages_init) .none kV_Stages_init dc_Stages_init pm_Stages_init an_Stages_init cd_Stages_init ct_Stages_init), sl_Stages_init⟩)
    (c_Stages_init : PySem.W.codeIn K cd_Stages_init "Stages.__init__" = true)
    (k_Stages_init : PySem.W.keepIn K (.ref f_Stages_init) = true)
    (a_is_integer : PySem.W.nsIn K mainGlobals "is_integer" = some (some (.ref f_is_integer)))
    (l_is_integer : K.lookup f_is_integer = some ⟨oc_is_integer, od_is_integer, .func (PySem.W.fnOf "is_integer" "is_integer" (defArgs s_is_integer) (defBody s_is_integer) (defScope s_is_integer) .none kV_is_integer dc_is_integer pm_is_integer an_is_integer cd_is_integer ct_is_integer), sl_is_integer⟩)
    (c_is_integer : PySem.W.codeIn K cd_is_integer "is_integer" = true)
    (k_is_integer : PySem.W.keepIn K (.ref f_is_integer) = true)
    (a_is_between : PySem.W.nsIn K mainGlobals "is_between" = some (some (.ref f_is_between)))
    (l_is_between : K.lookup f_is_between = some ⟨oc_is_between, od_is_between, .func (PySem.W.fnOf "is_between" "is_between" (defArgs s_is_between) (defBody s_is_between) (defScope s_is_between) .none kV_is_between dc_is_between pm_is_between an_is_between cd_is_between ct_is_between), sl_is_between⟩)
    (c_is_between : PySem.W.codeIn K cd_is_between "is_between" = true)
    (k_is_between : PySem.W.keepIn K (.ref f_is_between) = true)
    (a_is_row : PySem.W.nsIn K mainGlobals "is_row" = some (some (.ref f_is_row)))
    (l_is_row : K.lookup f_is_row = some ⟨oc_is_row, od_is_row, .func (PySem.W.fnOf "is_row" "is_row" (defArgs s_is_row) (defBody s_is_row) (defScope s_is_row) .none kV_is_row dc_is_row pm_is_row an_is_row cd_is_row ct_is_row), sl_is_row⟩)
    (c_is_row : PySem.W.codeIn K cd_is_row "is_row" = true)
    (k_is_row : PySem.W.keepIn K (.ref f_is_row) = true)
    (a_is_policy : PySem.W.nsIn K mainGlobals "is_policy" = some (some (.ref f_is_policy)))
    (l_is_policy : K.lookup f_is_policy = some ⟨oc_is_policy, od_is_policy, .func (PySem.W.fnOf "is_policy" "is_policy" (defArgs s_is_policy) (defBody s_is_policy) (defScope s_is_policy) .none kV_is_policy dc_is_policy pm_is_policy an_is_policy cd_is_policy ct_is_policy), sl_is_policy⟩)
    (c_is_policy : PySem.W.codeIn K cd_is_policy "is_policy" = true)
    (k_is_policy : PySem.W.keepIn K (.ref f_is_policy) = true)
    (a_check_policy : PySem.W.nsIn K mainGlobals "check_policy" = some (some (.ref f_check_policy)))
    (l_check_policy : K.lookup f_check_policy = some ⟨oc_check_policy, od_check_policy, .func (PySem.W.fnOf "check_policy" "check_policy" (defArgs s_check_policy) (defBody s_check_policy) (defScope s_check_policy) .none kV_check_policy dc_check_policy pm_check_policy an_check_policy cd_check_policy ct_check_policy), sl_check_policy⟩)
    (c_check_policy : PySem.W.codeIn K cd_check_policy "check_policy" = true)
    (k_check_policy : PySem.W.keepIn K (.ref f_check_policy) = true)
    (a_plain : PySem.W.nsIn K mainGlobals "plain" = some (some (.ref f_plain)))
    (l_plain : K.lookup f_plain = some ⟨oc_plain, od_plain, .func (PySem.W.fnOf "plain" "plain" (defArgs s_plain) (defBody s_plain) (defScope s_plain) .none kV_plain dc_plain pm_plain an_plain cd_plain ct_plain), sl_plain⟩)
    (c_plain : PySem.W.codeIn K cd_plain "plain" = true)
    (k_plain : PySem.W.keepIn K (.ref f_plain) = true)
    (a__law_unlike : PySem.W.nsIn K mainGlobals "_law_unlike" = some (some (.ref f__law_unlike)))
    (l__law_unlike : K.lookup f__law_unlike = some ⟨oc__law_unlike, od__law_unlike, .func (PySem.W.fnOf "_law_unlike" "_law_unlike" (defArgs s__law_unlike) (defBody s__law_unlike) (defScope s__law_unlike) .none kV__law_unlike dc__law_unlike pm__law_unlike an__law_unlike cd__law_unlike ct__law_unlike), sl__law_unlike⟩)
    (c__law_unlike : PySem.W.codeIn K cd__law_unlike "_law_unlike" = true)
    (k__law_unlike : PySem.W.keepIn K (.ref f__law_unlike) = true)
    (a__law_stages : PySem.W.nsIn K mainGlobals "_law_stages" = some (some (.ref f__law_stages)))
    (l__law_stages : K.lookup f__law_stages = some ⟨oc__law_stages, od__law_stages, .func (PySem.W.fnOf "_law_stages" "_law_stages" (defArgs s__law_stages) (defBody s__law_stages) (defScope s__law_stages) .none kV__law_stages dc__law_stages pm__law_stages an__law_stages cd__law_stages ct__law_stages), sl__law_stages⟩)
    (c__law_stages : PySem.W.codeIn K cd__law_stages "_law_stages" = true)
    (k__law_stages : PySem.W.keepIn K (.ref f__law_stages) = true)
    (a__law_plain : PySem.W.nsIn K mainGlobals "_law_plain" = some (some (.ref f__law_plain)))
    (l__law_plain : K.lookup f__law_plain = some ⟨oc__law_plain, od__law_plain, .func (PySem.W.fnOf "_law_plain" "_law_plain" (defArgs s__law_plain) (defBody s__law_plain) (defScope s__law_plain) .none kV__law_plain dc__law_plain pm__law_plain an__law_plain cd__law_plain ct__law_plain), sl__law_plain⟩)
    (c__law_plain : PySem.W.codeIn K cd__law_plain "_law_plain" = true)
    (k__law_plain : PySem.W.keepIn K (.ref f__law_plain) = true)
    (a__law_asked : PySem.W.nsIn K mainGlobals "_law_asked" = some (some (.ref f__law_asked)))
    (l__law_asked : K.lookup f__law_asked = some ⟨oc__law_asked, od__law_asked, .func (PySem.W.fnOf "_law_asked" "_law_asked" (defArgs s__law_asked) (defBody s__law_asked) (defScope s__law_asked) .none kV__law_asked dc__law_asked pm__law_asked an__law_asked cd__law_asked ct__law_asked), sl__law_asked⟩)
    (c__law_asked : PySem.W.codeIn K cd__law_asked "_law_asked" = true)
    (k__law_asked : PySem.W.keepIn K (.ref f__law_asked) = true)
    (a__law_draw : PySem.W.nsIn K mainGlobals "_law_draw" = some (some (.ref f__law_draw)))
    (l__law_draw : K.lookup f__law_draw = some ⟨oc__law_draw, od__law_draw, .func (PySem.W.fnOf "_law_draw" "_law_draw" (defArgs s__law_draw) (defBody s__law_draw) (defScope s__law_draw) .none kV__law_draw dc__law_draw pm__law_draw an__law_draw cd__law_draw ct__law_draw), sl__law_draw⟩)
    (c__law_draw : PySem.W.codeIn K cd__law_draw "_law_draw" = true)
    (k__law_draw : PySem.W.keepIn K (.ref f__law_draw) = true)
    (a__law_policy : PySem.W.nsIn K mainGlobals "_law_policy" = some (some (.ref f__law_policy)))
    (l__law_policy : K.lookup f__law_policy = some ⟨oc__law_policy, od__law_policy, .func (PySem.W.fnOf "_law_policy" "_law_policy" (defArgs s__law_policy) (defBody s__law_policy) (defScope s__law_policy) .none kV__law_policy dc__law_policy pm__law_policy an__law_policy cd__law_policy ct__law_policy), sl__law_policy⟩)
    (c__law_policy : PySem.W.codeIn K cd__law_policy "_law_policy" = true)
    (k__law_policy : PySem.W.keepIn K (.ref f__law_policy) = true)
    (a__law_right : PySem.W.nsIn K mainGlobals "_law_right" = some (some (.ref f__law_right)))
    (l__law_right : K.lookup f__law_right = some ⟨oc__law_right, od__law_right, .func (PySem.W.fnOf "_law_right" "_law_right" (defArgs s__law_right) (defBody s__law_right) (defScope s__law_right) .none kV__law_right dc__law_right pm__law_right an__law_right cd__law_right ct__law_right), sl__law_right⟩)
    (c__law_right : PySem.W.codeIn K cd__law_right "_law_right" = true)
    (k__law_right : PySem.W.keepIn K (.ref f__law_right) = true)
    (a__law_pool : PySem.W.nsIn K mainGlobals "_law_pool" = some (some (.ref f__law_pool)))
    (l__law_pool : K.lookup f__law_pool = some ⟨oc__law_pool, od__law_pool, .func (PySem.W.fnOf "_law_pool" "_law_pool" (defArgs s__law_pool) (defBody s__law_pool) (defScope s__law_pool) .none kV__law_pool dc__law_pool pm__law_pool an__law_pool cd__law_pool ct__law_pool), sl__law_pool⟩)
    (c__law_pool : PySem.W.codeIn K cd__law_pool "_law_pool" = true)
    (k__law_pool : PySem.W.keepIn K (.ref f__law_pool) = true)
    (a__law_cell : PySem.W.nsIn K mainGlobals "_law_cell" = some (some (.ref f__law_cell)))
    (l__law_cell : K.lookup f__law_cell = some ⟨oc__law_cell, od__law_cell, .func (PySem.W.fnOf "_law_cell" "_law_cell" (defArgs s__law_cell) (defBody s__law_cell) (defScope s__law_cell) .none kV__law_cell dc__law_cell pm__law_cell an__law_cell cd__law_cell ct__law_cell), sl__law_cell⟩)
    (c__law_cell : PySem.W.codeIn K cd__law_cell "_law_cell" = true)
    (k__law_cell : PySem.W.keepIn K (.ref f__law_cell) = true)
    (a__law_recent : PySem.W.nsIn K mainGlobals "_law_recent" = some (some (.ref f__law_recent)))
    (l__law_recent : K.lookup f__law_recent = some ⟨oc__law_recent, od__law_recent, .func (PySem.W.fnOf "_law_recent" "_law_recent" (defArgs s__law_recent) (defBody s__law_recent) (defScope s__law_recent) .none kV__law_recent dc__law_recent pm__law_recent an__law_recent cd__law_recent ct__law_recent), sl__law_recent⟩)
    (c__law_recent : PySem.W.codeIn K cd__law_recent "_law_recent" = true)
    (k__law_recent : PySem.W.keepIn K (.ref f__law_recent) = true)
    (a__law_queue : PySem.W.nsIn K mainGlobals "_law_queue" = some (some (.ref f__law_queue)))
    (l__law_queue : K.lookup f__law_queue = some ⟨oc__law_queue, od__law_queue, .func (PySem.W.fnOf "_law_queue" "_law_queue" (defArgs s__law_queue) (defBody s__law_queue) (defScope s__law_queue) .none kV__law_queue dc__law_queue pm__law_queue an__law_queue cd__law_queue ct__law_queue), sl__law_queue⟩)
    (c__law_queue : PySem.W.codeIn K cd__law_queue "_law_queue" = true)
    (k__law_queue : PySem.W.keepIn K (.ref f__law_queue) = true)
    (a_law : PySem.W.nsIn K mainGlobals "law" = some (some (.ref f_law)))
    (l_law : K.lookup f_law = some ⟨oc_law, od_law, .func (PySem.W.fnOf "law" "law" (defArgs s_law) (defBody s_law) (defScope s_law) .none kV_law dc_law pm_law an_law cd_law ct_law), sl_law⟩)
    (c_law : PySem.W.codeIn K cd_law "law" = true)
    (k_law : PySem.W.keepIn K (.ref f_law) = true)
    (na_Stages_order : PySem.W.findIn K (.ref C_Stages) "order" = some none)
    (na_Stages_places : PySem.W.findIn K (.ref C_Stages) "places" = some none)
    (na_Stages_rows : PySem.W.findIn K (.ref C_Stages) "rows" = some none)
    (z_abs : PySem.W.nsIn K mainGlobals "abs" = some none)
    (z_all : PySem.W.nsIn K mainGlobals "all" = some none)
    (z_any : PySem.W.nsIn K mainGlobals "any" = some none)
    (z_bool : PySem.W.nsIn K mainGlobals "bool" = some none)
    (z_divmod : PySem.W.nsIn K mainGlobals "divmod" = some none)
    (z_enumerate : PySem.W.nsIn K mainGlobals "enumerate" = some none)
    (z_int : PySem.W.nsIn K mainGlobals "int" = some none)
    (z_isinstance : PySem.W.nsIn K mainGlobals "isinstance" = some none)
    (z_len : PySem.W.nsIn K mainGlobals "len" = some none)
    (z_max : PySem.W.nsIn K mainGlobals "max" = some none)
    (z_min : PySem.W.nsIn K mainGlobals "min" = some none)
    (z_range : PySem.W.nsIn K mainGlobals "range" = some none)
    (z_repr : PySem.W.nsIn K mainGlobals "repr" = some none)
    (z_set : PySem.W.nsIn K mainGlobals "set" = some none)
    (z_tuple : PySem.W.nsIn K mainGlobals "tuple" = some none)
    (z_zip : PySem.W.nsIn K mainGlobals "zip" = some none)
    (g_MOST_LINES : PySem.W.nsIn K mainGlobals "MOST_LINES" = some (some (.int 4 gt_MOST_LINES)))
    (g_MOST_STATES : PySem.W.nsIn K mainGlobals "MOST_STATES" = some (some (.int 64 gt_MOST_STATES))) :
    ∃ T : Top K mg, T.f_law = fa ∧ ∀ (s : Shared) (v : Value), BindsTo s T.d_law ⟨[v], []⟩ [("_law_script", v)] :=
  ⟨{ C_Stages := C_Stages,
     cl_Stages := ⟨pg_Stages, hd_Stages, po_Stages, sa_Stages⟩,
     mC_Stages := PySem.W.mg_of X G aC_Stages,
     f_firsts_of := f_firsts_of,
     d_firsts_of := PySem.W.fnOf "firsts_of" "firsts_of" (defArgs s_firsts_of) (defBody s_firsts_of) (defScope s_firsts_of) .none kV_firsts_of dc_firsts_of pm_firsts_of an_firsts_of cd_firsts_of ct_firsts_of,
     F_firsts_of := fun_mk (st := s_firsts_of) l_firsts_of c_firsts_of k_firsts_of,
     b_firsts_of := (fun_mk (st := s_firsts_of) l_firsts_of c_firsts_of k_firsts_of).binds (ps := ["stages", "classes"]) fun _ _ _ _ _ _ us hl => match us, hl with | [_, _], _ => rfl,
     m_firsts_of := PySem.W.mg_of X G a_firsts_of,
     f_numbered := f_numbered,
     d_numbered := PySem.W.fnOf "numbered" "numbered" (defArgs s_numbered) (defBody s_numbered) (defScope s_numbered) .none kV_numbered dc_numbered pm_numbered an_numbered cd_numbered ct_numbered,
     F_numbered := fun_mk (st := s_numbered) l_numbered c_numbered k_numbered,
     b_numbered := (fun_mk (st := s_numbered) l_numbered c_numbered k_numbered).binds (ps := ["keys"]) fun _ _ _ _ _ _ us hl => match us, hl with | [_], _ => rfl,
     m_numbered := PySem.W.mg_of X G a_numbered,
     f_classes_of := f_classes_of,
     d_classes_of := PySem.W.fnOf "classes_of" "classes_of" (defArgs s_classes_of) (defBody s_classes_of) (defScope s_classes_of) .none kV_classes_of dc_classes_of pm_classes_of an_classes_of cd_classes_of ct_classes_of,
     F_classes_of := fun_mk (st := s_classes_of) l_classes_of c_classes_of k_classes_of,
     b_classes_of := (fun_mk (st := s_classes_of) l_classes_of c_classes_of k_classes_of).binds (ps := ["stages"]) fun _ _ _ _ _ _ us hl => match us, hl with | [_], _ => rfl,
     m_classes_of := PySem.W.mg_of X G a_classes_of,
     f_after_hits := f_after_hits,
     d_after_hits := PySem.W.fnOf "after_hits" "after_hits" (defArgs s_after_hits) (defBody s_after_hits) (defScope s_after_hits) .none kV_after_hits dc_after_hits pm_after_hits an_after_hits cd_after_hits ct_after_hits,
     F_after_hits := fun_mk (st := s_after_hits) l_after_hits c_after_hits k_after_hits,
     b_after_hits := (fun_mk (st := s_after_hits) l_after_hits c_after_hits k_after_hits).binds (ps := ["policy", "stage"]) fun _ _ _ _ _ _ us hl => match us, hl with | [_, _], _ => rfl,
     m_after_hits := PySem.W.mg_of X G a_after_hits,
     f_Stages_place_of := f_Stages_place_of,
     d_Stages_place_of := PySem.W.fnOf "place_of" "Stages.place_of" (defArgs s_Stages_place_of) (defBody s_Stages_place_of) (defScope s_Stages_place_of) .none kV_Stages_place_of dc_Stages_place_of pm_Stages_place_of an_Stages_place_of cd_Stages_place_of ct_Stages_place_of,
     F_Stages_place_of := fun_mk (st := s_Stages_place_of) l_Stages_place_of c_Stages_place_of k_Stages_place_of,
     b_Stages_place_of := (fun_mk (st := s_Stages_place_of) l_Stages_place_of c_Stages_place_of k_Stages_place_of).binds (ps := ["self", "stage"]) fun _ _ _ _ _ _ us hl => match us, hl with | [_, _], _ => rfl,
     me_Stages_place_of := ⟨a_Stages_place_of, i_Stages_place_of, k_Stages_place_of⟩,
     f_after_miss := f_after_miss,
     d_after_miss := PySem.W.fnOf "after_miss" "after_miss" (defArgs s_after_miss) (defBody s_after_miss) (defScope s_after_miss) .none kV_after_miss dc_after_miss pm_after_miss an_after_miss cd_after_miss ct_after_miss,
     F_after_miss := fun_mk (st := s_after_miss) l_after_miss c_after_miss k_after_miss,
     b_after_miss := (fun_mk (st := s_after_miss) l_after_miss c_after_miss k_after_miss).binds (ps := ["policy", "stage"]) fun _ _ _ _ _ _ us hl => match us, hl with | [_, _], _ => rfl,
     m_after_miss := PySem.W.mg_of X G a_after_miss,
     f_Stages_init := f_Stages_init,
     d_Stages_init := PySem.W.fnOf "__init__" "Stages.__init__" (defArgs s_Stages_init) (defBody s_Stages_init) (defScope s_Stages_init) .none kV_Stages_init dc_Stages_init pm_Stages_init an_Stages_init cd_Stages_init ct_Stages_init,
     F_Stages_init := fun_mk (st := s_Stages_init) l_Stages_init c_Stages_init k_Stages_init,
     b_Stages_init := (fun_mk (st := s_Stages_init) l_Stages_init c_Stages_init k_Stages_init).binds (ps := ["self", "policy"]) fun _ _ _ _ _ _ us hl => match us, hl with | [_, _], _ => rfl,
     mk_Stages := ⟨mk_Stages, a_Stages_init, i_Stages_init, kc_Stages⟩,
     f_is_integer := f_is_integer,
     d_is_integer := PySem.W.fnOf "is_integer" "is_integer" (defArgs s_is_integer) (defBody s_is_integer) (defScope s_is_integer) .none kV_is_integer dc_is_integer pm_is_integer an_is_integer cd_is_integer ct_is_integer,
     F_is_integer := fun_mk (st := s_is_integer) l_is_integer c_is_integer k_is_integer,
     b_is_integer := (fun_mk (st := s_is_integer) l_is_integer c_is_integer k_is_integer).binds (ps := ["value"]) fun _ _ _ _ _ _ us hl => match us, hl with | [_], _ => rfl,
     m_is_integer := PySem.W.mg_of X G a_is_integer,
     f_is_between := f_is_between,
     d_is_between := PySem.W.fnOf "is_between" "is_between" (defArgs s_is_between) (defBody s_is_between) (defScope s_is_between) .none kV_is_between dc_is_between pm_is_between an_is_between cd_is_between ct_is_between,
     F_is_between := fun_mk (st := s_is_between) l_is_between c_is_between k_is_between,
     b_is_between := (fun_mk (st := s_is_between) l_is_between c_is_between k_is_between).binds (ps := ["value", "least", "greatest"]) fun _ _ _ _ _ _ us hl => match us, hl with | [_, _, _], _ => rfl,
     m_is_between := PySem.W.mg_of X G a_is_between,
     f_is_row := f_is_row,
     d_is_row := PySem.W.fnOf "is_row" "is_row" (defArgs s_is_row) (defBody s_is_row) (defScope s_is_row) .none kV_is_row dc_is_row pm_is_row an_is_row cd_is_row ct_is_row,
     F_is_row := fun_mk (st := s_is_row) l_is_row c_is_row k_is_row,
     b_is_row := (fun_mk (st := s_is_row) l_is_row c_is_row k_is_row).binds (ps := ["value", "lines", "states"]) fun _ _ _ _ _ _ us hl => match us, hl with | [_, _, _], _ => rfl,
     m_is_row := PySem.W.mg_of X G a_is_row,
     f_is_policy := f_is_policy,
     d_is_policy := PySem.W.fnOf "is_policy" "is_policy" (defArgs s_is_policy) (defBody s_is_policy) (defScope s_is_policy) .none kV_is_policy dc_is_policy pm_is_policy an_is_policy cd_is_policy ct_is_policy,
     F_is_policy := fun_mk (st := s_is_policy) l_is_policy c_is_policy k_is_policy,
     b_is_policy := (fun_mk (st := s_is_policy) l_is_policy c_is_policy k_is_policy).binds (ps := ["value"]) fun _ _ _ _ _ _ us hl => match us, hl with | [_], _ => rfl,
     m_is_policy := PySem.W.mg_of X G a_is_policy,
     f_check_policy := f_check_policy,
     d_check_policy := PySem.W.fnOf "check_policy" "check_policy" (defArgs s_check_policy) (defBody s_check_policy) (defScope s_check_policy) .none kV_check_policy dc_check_policy pm_check_policy an_check_policy cd_check_policy ct_check_policy,
     F_check_policy := fun_mk (st := s_check_policy) l_check_policy c_check_policy k_check_policy,
     b_check_policy := (fun_mk (st := s_check_policy) l_check_policy c_check_policy k_check_policy).binds (ps := ["policy"]) fun _ _ _ _ _ _ us hl => match us, hl with | [_], _ => rfl,
     m_check_policy := PySem.W.mg_of X G a_check_policy,
     f_plain := f_plain,
     d_plain := PySem.W.fnOf "plain" "plain" (defArgs s_plain) (defBody s_plain) (defScope s_plain) .none kV_plain dc_plain pm_plain an_plain cd_plain ct_plain,
     F_plain := fun_mk (st := s_plain) l_plain c_plain k_plain,
     b_plain := (fun_mk (st := s_plain) l_plain c_plain k_plain).binds (ps := ["policy"]) fun _ _ _ _ _ _ us hl => match us, hl with | [_], _ => rfl,
     m_plain := PySem.W.mg_of X G a_plain,
     f__law_unlike := f__law_unlike,
     d__law_unlike := PySem.W.fnOf "_law_unlike" "_law_unlike" (defArgs s__law_unlike) (defBody s__law_unlike) (defScope s__law_unlike) .none kV__law_unlike dc__law_unlike pm__law_unlike an__law_unlike cd__law_unlike ct__law_unlike,
     F__law_unlike := fun_mk (st := s__law_unlike) l__law_unlike c__law_unlike k__law_unlike,
     b__law_unlike := (fun_mk (st := s__law_unlike) l__law_unlike c__law_unlike k__law_unlike).binds (ps := ["_law_rows"]) fun _ _ _ _ _ _ us hl => match us, hl with | [_], _ => rfl,
     m__law_unlike := PySem.W.mg_of X G a__law_unlike,
     f__law_stages := f__law_stages,
     d__law_stages := PySem.W.fnOf "_law_stages" "_law_stages" (defArgs s__law_stages) (defBody s__law_stages) (defScope s__law_stages) .none kV__law_stages dc__law_stages pm__law_stages an__law_stages cd__law_stages ct__law_stages,
     F__law_stages := fun_mk (st := s__law_stages) l__law_stages c__law_stages k__law_stages,
     b__law_stages := (fun_mk (st := s__law_stages) l__law_stages c__law_stages k__law_stages).binds (ps := ["_law_table"]) fun _ _ _ _ _ _ us hl => match us, hl with | [_], _ => rfl,
     m__law_stages := PySem.W.mg_of X G a__law_stages,
     f__law_plain := f__law_plain,
     d__law_plain := PySem.W.fnOf "_law_plain" "_law_plain" (defArgs s__law_plain) (defBody s__law_plain) (defScope s__law_plain) .none kV__law_plain dc__law_plain pm__law_plain an__law_plain cd__law_plain ct__law_plain,
     F__law_plain := fun_mk (st := s__law_plain) l__law_plain c__law_plain k__law_plain,
     b__law_plain := (fun_mk (st := s__law_plain) l__law_plain c__law_plain k__law_plain).binds (ps := ["_law_table"]) fun _ _ _ _ _ _ us hl => match us, hl with | [_], _ => rfl,
     m__law_plain := PySem.W.mg_of X G a__law_plain,
     f__law_asked := f__law_asked,
     d__law_asked := PySem.W.fnOf "_law_asked" "_law_asked" (defArgs s__law_asked) (defBody s__law_asked) (defScope s__law_asked) .none kV__law_asked dc__law_asked pm__law_asked an__law_asked cd__law_asked ct__law_asked,
     F__law_asked := fun_mk (st := s__law_asked) l__law_asked c__law_asked k__law_asked,
     b__law_asked := (fun_mk (st := s__law_asked) l__law_asked c__law_asked k__law_asked).binds (ps := ["_law_table"]) fun _ _ _ _ _ _ us hl => match us, hl with | [_], _ => rfl,
     m__law_asked := PySem.W.mg_of X G a__law_asked,
     f__law_draw := f__law_draw,
     d__law_draw := PySem.W.fnOf "_law_draw" "_law_draw" (defArgs s__law_draw) (defBody s__law_draw) (defScope s__law_draw) .none kV__law_draw dc__law_draw pm__law_draw an__law_draw cd__law_draw ct__law_draw,
     F__law_draw := fun_mk (st := s__law_draw) l__law_draw c__law_draw k__law_draw,
     b__law_draw := (fun_mk (st := s__law_draw) l__law_draw c__law_draw k__law_draw).binds (ps := ["_law_pool_here", "_law_most"]) fun _ _ _ _ _ _ us hl => match us, hl with | [_, _], _ => rfl,
     m__law_draw := PySem.W.mg_of X G a__law_draw,
     f__law_policy := f__law_policy,
     d__law_policy := PySem.W.fnOf "_law_policy" "_law_policy" (defArgs s__law_policy) (defBody s__law_policy) (defScope s__law_policy) .none kV__law_policy dc__law_policy pm__law_policy an__law_policy cd__law_policy ct__law_policy,
     F__law_policy := fun_mk (st := s__law_policy) l__law_policy c__law_policy k__law_policy,
     b__law_policy := (fun_mk (st := s__law_policy) l__law_policy c__law_policy k__law_policy).binds (ps := ["_law_pool_here", "_law_lines", "_law_states"]) fun _ _ _ _ _ _ us hl => match us, hl with | [_, _, _], _ => rfl,
     m__law_policy := PySem.W.mg_of X G a__law_policy,
     f__law_right := f__law_right,
     d__law_right := PySem.W.fnOf "_law_right" "_law_right" (defArgs s__law_right) (defBody s__law_right) (defScope s__law_right) .none kV__law_right dc__law_right pm__law_right an__law_right cd__law_right ct__law_right,
     F__law_right := fun_mk (st := s__law_right) l__law_right c__law_right k__law_right,
     b__law_right := (fun_mk (st := s__law_right) l__law_right c__law_right k__law_right).binds (ps := ["_law_pool_here"]) fun _ _ _ _ _ _ us hl => match us, hl with | [_], _ => rfl,
     m__law_right := PySem.W.mg_of X G a__law_right,
     f__law_pool := f__law_pool,
     d__law_pool := PySem.W.fnOf "_law_pool" "_law_pool" (defArgs s__law_pool) (defBody s__law_pool) (defScope s__law_pool) .none kV__law_pool dc__law_pool pm__law_pool an__law_pool cd__law_pool ct__law_pool,
     F__law_pool := fun_mk (st := s__law_pool) l__law_pool c__law_pool k__law_pool,
     b__law_pool := (fun_mk (st := s__law_pool) l__law_pool c__law_pool k__law_pool).binds (ps := ["_law_figure"]) fun _ _ _ _ _ _ us hl => match us, hl with | [_], _ => rfl,
     m__law_pool := PySem.W.mg_of X G a__law_pool,
     f__law_cell := f__law_cell,
     d__law_cell := PySem.W.fnOf "_law_cell" "_law_cell" (defArgs s__law_cell) (defBody s__law_cell) (defScope s__law_cell) .none kV__law_cell dc__law_cell pm__law_cell an__law_cell cd__law_cell ct__law_cell,
     F__law_cell := fun_mk (st := s__law_cell) l__law_cell c__law_cell k__law_cell,
     b__law_cell := (fun_mk (st := s__law_cell) l__law_cell c__law_cell k__law_cell).binds (ps := ["_law_script", "_law_k"]) fun _ _ _ _ _ _ us hl => match us, hl with | [_, _], _ => rfl,
     m__law_cell := PySem.W.mg_of X G a__law_cell,
     f__law_recent := f__law_recent,
     d__law_recent := PySem.W.fnOf "_law_recent" "_law_recent" (defArgs s__law_recent) (defBody s__law_recent) (defScope s__law_recent) .none kV__law_recent dc__law_recent pm__law_recent an__law_recent cd__law_recent ct__law_recent,
     F__law_recent := fun_mk (st := s__law_recent) l__law_recent c__law_recent k__law_recent,
     b__law_recent := (fun_mk (st := s__law_recent) l__law_recent c__law_recent k__law_recent).binds (ps := ["_law_lines"]) fun _ _ _ _ _ _ us hl => match us, hl with | [_], _ => rfl,
     m__law_recent := PySem.W.mg_of X G a__law_recent,
     f__law_queue := f__law_queue,
     d__law_queue := PySem.W.fnOf "_law_queue" "_law_queue" (defArgs s__law_queue) (defBody s__law_queue) (defScope s__law_queue) .none kV__law_queue dc__law_queue pm__law_queue an__law_queue cd__law_queue ct__law_queue,
     F__law_queue := fun_mk (st := s__law_queue) l__law_queue c__law_queue k__law_queue,
     b__law_queue := (fun_mk (st := s__law_queue) l__law_queue c__law_queue k__law_queue).binds (ps := ["_law_lines"]) fun _ _ _ _ _ _ us hl => match us, hl with | [_], _ => rfl,
     m__law_queue := PySem.W.mg_of X G a__law_queue,
     f_law := f_law,
     d_law := PySem.W.fnOf "law" "law" (defArgs s_law) (defBody s_law) (defScope s_law) .none kV_law dc_law pm_law an_law cd_law ct_law,
     F_law := fun_mk (st := s_law) l_law c_law k_law,
     b_law := (fun_mk (st := s_law) l_law c_law k_law).binds (ps := ["_law_script"]) fun _ _ _ _ _ _ us hl => match us, hl with | [_], _ => rfl,
     m_law := PySem.W.mg_of X G a_law,
     na_Stages_order := na_Stages_order,
     na_Stages_places := na_Stages_places,
     na_Stages_rows := na_Stages_rows,
     n_abs := PySem.W.mg_none_of X G z_abs,
     n_all := PySem.W.mg_none_of X G z_all,
     n_any := PySem.W.mg_none_of X G z_any,
     n_bool := PySem.W.mg_none_of X G z_bool,
     n_divmod := PySem.W.mg_none_of X G z_divmod,
     n_enumerate := PySem.W.mg_none_of X G z_enumerate,
     n_int := PySem.W.mg_none_of X G z_int,
     n_isinstance := PySem.W.mg_none_of X G z_isinstance,
     n_len := PySem.W.mg_none_of X G z_len,
     n_max := PySem.W.mg_none_of X G z_max,
     n_min := PySem.W.mg_none_of X G z_min,
     n_range := PySem.W.mg_none_of X G z_range,
     n_repr := PySem.W.mg_none_of X G z_repr,
     n_set := PySem.W.mg_none_of X G z_set,
     n_tuple := PySem.W.mg_none_of X G z_tuple,
     n_zip := PySem.W.mg_none_of X G z_zip,
     g_MOST_LINES := ⟨.int 4, _, PySem.W.mg_of X G g_MOST_LINES, ⟨_, rfl⟩, fun _ _ => .int _⟩,
     g_MOST_STATES := ⟨.int 64, _, PySem.W.mg_of X G g_MOST_STATES, ⟨_, rfl⟩, fun _ _ => .int _⟩,
     kw_plain_0 := fun s ws _ hl => .of_eq (match ws, hl with | [_], _ => rfl) },
   (Option.some.inj ((PySem.W.mg_of X G a_law).symm.trans hfa)) |> Value.ref.inj, fun s v => .of_eq rfl⟩
end L55


/-! text G1_55 -/
local macro_rules | `(tactic| bv_omega) => `(tactic| first | assumption | exact Zl.at_new | (apply Zl.at_set; bv_omega) | (apply Zl.at_set_ne; (focus (bv_omega; done)); omega) | (apply Zl.at_app; bv_omega) | (apply Zl.Kp.at; (focus (assumption; done)); (focus (bv_omega; done)); first | exact id | omega))
local macro_rules | `(tactic| array_mem_dec) => `(tactic| first | exact Zl.Kp.refl | assumption | (apply Zl.Kp.setl; (focus (array_mem_dec; done)); (intro _; omega)) | (apply Zl.Kp.appl; array_mem_dec) | (apply Zl.Kp.tl; (focus (assumption; done)); (focus (array_mem_dec; done)); intro n hn hw; first | exact hw | exact hw.elim | omega))
local macro_rules | `(tactic| subst_eqs) => `(tactic| first | exact Zl.rdL_nil | (apply Zl.rd_loc; (focus (bv_omega; done)); subst_eqs) | (apply Zl.rd_tup; subst_eqs) | (apply Zl.rdL_cons; (focus (subst_eqs; done)); subst_eqs) | exact Zl.rd_bls _ | with_unfolding_all rfl)
local macro_rules | `(tactic| simp_wf) => `(tactic| with_reducible repeat (first | apply Zl.wp_seq | apply Zl.k_nx | apply Zl.k_rt | apply Zl.k_bk | apply Zl.k_ct | apply Zl.wp_ret | apply Zl.wp_set | apply Zl.wp_drop | apply Zl.wp_asg | apply Zl.wp_par | apply Zl.wp_ifs | apply Zl.wp_end | apply Zl.wp_brk | apply Zl.wp_cnt | apply Zl.kf_rt | apply Zl.kf_nx | apply Zl.wp_k | apply Zl.wp_op | apply Zl.wp_un | apply Zl.wp_chain | apply Zl.wp_b | apply Zl.wp_trB | apply Zl.wp_not | apply Zl.wp_andT | apply Zl.wp_orT | apply Zl.wp_andV | apply Zl.wp_notV | apply Zl.wp_if | apply Zl.wp_nil | apply Zl.wp_cons | apply Zl.wp_tup | apply Zl.wp_lstA | apply Zl.wp_c | apply Zl.wp_call | apply Zl.wp_slP | apply Zl.wp_noP | apply Zl.wp_gN | apply Zl.wp_gsNil | apply Zl.wp_gsCons | apply Zl.wp_gS | apply Zl.wp_addI | apply Zl.wp_subI | apply Zl.wp_cmp | apply Zl.wp_eqI | apply Zl.wp_eqS | apply Zl.kb | apply Zl.ki_t | apply Zl.ki_f | apply Zl.kc_t | apply Zl.kc_f | apply Zl.wp_fld | apply Zl.wp_put | apply Zl.wp_meth | apply Zl.wp_make | apply Zl.wp_m | apply Zl.wp_src | apply Zl.wp_enum | apply Zl.wq_zip | apply Zl.wp_rngN | apply Zl.wp_P | apply Zl.wp_ok | apply Zl.wp_bnd | apply Zl.wq_dnew | apply Zl.kl_nx | apply Zl.kl_rt | apply Zl.kl_ct | apply Zl.kl_bk | refine Zl.wp_var (by with_unfolding_all rfl) ?_ | refine Zl.k_len (by with_unfolding_all rfl) ?_ | refine Zl.k_le (by with_unfolding_all rfl) ?_ | refine Zl.wp_isi (by with_unfolding_all rfl) ?_ | refine Zl.wp_len (by with_unfolding_all rfl) ?_ | refine Zl.wp_intd (by with_unfolding_all rfl) ?_ | refine Zl.wp_ixT (by with_unfolding_all rfl) ?_ | refine Zl.wp_gT (by with_unfolding_all rfl) ?_ | refine Zl.wp_gPr (by with_unfolding_all rfl) ?_))
local macro_rules | `(tactic| clean_wf) => `(tactic| with_reducible repeat (first | apply Zl.wp_seq | apply Zl.k_nx | apply Zl.k_rt | apply Zl.k_bk | apply Zl.k_ct | apply Zl.wp_ret | apply Zl.wp_set | apply Zl.wp_drop | apply Zl.wp_asg | apply Zl.wp_par | apply Zl.wp_ifs | apply Zl.wp_end | apply Zl.wp_brk | apply Zl.wp_cnt | apply Zl.kf_rt | apply Zl.kf_nx | apply Zl.wp_k | apply Zl.wp_op | apply Zl.wp_un | apply Zl.wp_chain | apply Zl.wp_b | apply Zl.wp_trB | apply Zl.wp_not | apply Zl.wp_andT | apply Zl.wp_orT | apply Zl.wp_andV | apply Zl.wp_notV | apply Zl.wp_if | apply Zl.wp_nil | apply Zl.wp_cons | apply Zl.wp_tup | apply Zl.wp_lst | apply Zl.wp_c | apply Zl.wp_call | apply Zl.wp_slP | apply Zl.wp_noP | apply Zl.wp_gN | apply Zl.wp_gsNil | apply Zl.wp_gsCons | apply Zl.wp_gS | apply Zl.wp_addI | apply Zl.wp_subI | apply Zl.wp_cmp | apply Zl.wp_eqI | apply Zl.wp_eqS | apply Zl.kb | apply Zl.ki_t | apply Zl.ki_f | apply Zl.kc_t | apply Zl.kc_f | apply Zl.wp_fld | apply Zl.wp_put | apply Zl.wp_meth | apply Zl.wp_make | apply Zl.wp_m | apply Zl.wp_src | apply Zl.wp_enum | apply Zl.wq_zip | apply Zl.wp_rngN | apply Zl.wp_P | apply Zl.wp_ok | apply Zl.wp_bnd | apply Zl.wq_dnew | apply Zl.kl_nx | apply Zl.kl_rt | apply Zl.kl_ct | apply Zl.kl_bk | refine Zl.wp_var (by with_unfolding_all rfl) ?_ | refine Zl.k_len (by with_unfolding_all rfl) ?_ | refine Zl.k_le (by with_unfolding_all rfl) ?_ | refine Zl.wp_isi (by with_unfolding_all rfl) ?_ | refine Zl.wp_len (by with_unfolding_all rfl) ?_ | refine Zl.wp_intd (by with_unfolding_all rfl) ?_ | refine Zl.wp_ixT (by with_unfolding_all rfl) ?_ | refine Zl.wp_gT (by with_unfolding_all rfl) ?_ | refine Zl.wp_gPr (by with_unfolding_all rfl) ?_))
local macro_rules | `(tactic| array_get_dec) => `(tactic| with_reducible repeat (first | apply Zl.wp_seq | apply Zl.k_nx | apply Zl.k_rt | apply Zl.k_bk | apply Zl.k_ct | apply Zl.wp_ret | apply Zl.wp_set | apply Zl.wp_drop | apply Zl.wp_asg | apply Zl.wp_par | apply Zl.wp_ifs | apply Zl.wp_end | apply Zl.wp_brk | apply Zl.wp_cnt | apply Zl.kf_rt | apply Zl.kf_nx | apply Zl.wp_k | apply Zl.wp_op | apply Zl.wp_un | apply Zl.wp_chain | apply Zl.wp_b | apply Zl.wp_trB | apply Zl.wp_not | apply Zl.wp_andT | apply Zl.wp_orT | apply Zl.wp_andV | apply Zl.wp_notV | apply Zl.wp_if | apply Zl.wp_nil | apply Zl.wp_cons | apply Zl.wp_tup | apply Zl.wq_lst | apply Zl.wp_c | apply Zl.wp_call | apply Zl.wp_slP | apply Zl.wp_noP | apply Zl.wp_gN | apply Zl.wp_gsNil | apply Zl.wp_gsCons | apply Zl.wq_gS | apply Zl.wp_addI | apply Zl.wp_subI | apply Zl.wp_cmp | apply Zl.wp_eqI | apply Zl.wp_eqS | apply Zl.kb | apply Zl.ki_t | apply Zl.ki_f | apply Zl.kc_t | apply Zl.kc_f | apply Zl.wq_fld | apply Zl.wq_put | apply Zl.wq_meth' | apply Zl.wq_make2 | apply Zl.wq_m | apply Zl.wq_src | apply Zl.wq_enum | apply Zl.wq_zip | apply Zl.wq_rng | apply Zl.wq_P | apply Zl.wp_ok | apply Zl.wp_bnd | apply Zl.wq_dnew | apply Zl.kl_nx | apply Zl.kl_rt | apply Zl.kl_ct | apply Zl.kl_bk | refine Zl.wp_var (by with_unfolding_all rfl) ?_ | refine Zl.k_len (by with_unfolding_all rfl) ?_ | refine Zl.k_le (by with_unfolding_all rfl) ?_ | refine Zl.wp_isi (by with_unfolding_all rfl) ?_ | refine Zl.wp_len (by with_unfolding_all rfl) ?_ | refine Zl.wp_intd (by with_unfolding_all rfl) ?_ | refine Zl.wp_ixT (by with_unfolding_all rfl) ?_ | refine Zl.wp_gT (by with_unfolding_all rfl) ?_ | refine Zl.wp_gPr (by with_unfolding_all rfl) ?_ | apply Zl.wq_gFld | (apply Zl.ws_lstL; (focus (bv_omega; done))) | apply Zl.ws_lstT | (apply Zl.k_enumM; (focus (bv_omega; done))) | (apply Zl.k_fld; (focus (bv_omega; done)); (focus (with_unfolding_all rfl; done))) | (apply Zl.k_putO; (focus (bv_omega; done)); (focus (with_unfolding_all rfl; done))) | (apply Zl.k_ins; (focus (bv_omega; done)); (focus (with_unfolding_all rfl; done))) | apply Zl.k_pos | apply Zl.k_non | (apply Zl.k_tyL; (focus (bv_omega; done))) | apply Zl.k_tyT | (apply Zl.k_srcL; (focus (bv_omega; done))) | apply Zl.k_srcT | apply Zl.k_srcR | apply Zl.k_zipT | apply Zl.k_enumT | (apply Zl.wr_lstL; (focus (bv_omega; done))) | apply Zl.wr_lstT | apply Zl.k_srcS | (apply Zl.wp_aug; (focus (with_unfolding_all rfl; done))) | apply Zl.k_int | apply Zl.k_nat | apply Zl.k_natL | (apply Zl.k_sml; (focus ((first | omega | with_unfolding_all decide); done))) | (apply Zl.k_new; intro _ _ _ _ _ _) | (apply Zl.k_wr; intro _ _ _ _) | apply Zl.kt_nx | apply Zl.kt_ct | apply Zl.kt_bk | apply Zl.kt_rt | (apply Zl.k_acc; (focus (bv_omega; done)); (focus (with_unfolding_all rfl; done))) | (apply Zl.wv_map; (focus (with_unfolding_all rfl; done)); (focus ((first | with_unfolding_all rfl | (apply Zl.stpL_go; (focus (bv_omega; done)); with_unfolding_all rfl) | (apply Zl.stpL_end; bv_omega) | (refine Eq.trans (Zl.stpL_at (by bv_omega)) ?_; with_unfolding_all rfl)); done))) | (apply Zl.wuc_end; (focus ((first | with_unfolding_all rfl | (apply Zl.stpL_go; (focus (bv_omega; done)); with_unfolding_all rfl) | (apply Zl.stpL_end; bv_omega) | (refine Eq.trans (Zl.stpL_at (by bv_omega)) ?_; with_unfolding_all rfl)); done))) | (apply Zl.wv_go; (focus (with_unfolding_all rfl; done)); (focus ((first | with_unfolding_all rfl | (apply Zl.stpL_go; (focus (bv_omega; done)); with_unfolding_all rfl) | (apply Zl.stpL_end; bv_omega) | (refine Eq.trans (Zl.stpL_at (by bv_omega)) ?_; with_unfolding_all rfl)); done))) | (apply Zl.wu_end; (focus ((first | with_unfolding_all rfl | (apply Zl.stpL_go; (focus (bv_omega; done)); with_unfolding_all rfl) | (apply Zl.stpL_end; bv_omega) | (refine Eq.trans (Zl.stpL_at (by bv_omega)) ?_; with_unfolding_all rfl)); done))) | (apply Zl.wp_ixL; (focus (bv_omega; done)); (focus ((first | (apply Zl.atI_n; assumption) | with_unfolding_all rfl); done))) | (apply Zl.wp_ixT; (focus ((apply Zl.atI_n; assumption); done))) | (apply Zl.k_setO; (focus (bv_omega; done)); (focus (with_unfolding_all rfl; done))) | (apply Zl.k_setDk; (focus (bv_omega; done)); (focus (with_unfolding_all rfl; done)); (focus (omega; done))) | (apply Zl.wp_lenL; (focus (bv_omega; done))) | (apply Zl.wp_tupL; (focus (bv_omega; done))) | (apply Zl.wp_modI; (focus (omega; done))) | (apply Zl.wp_fdivI; (focus (omega; done))) | (apply Zl.wp_mulI; (focus (omega; done))) | apply Zl.wp_slT | (apply Zl.wq_addT; (focus ((first | (simp; done) | with_unfolding_all decide); done))) | (apply Zl.wq_addL; (focus (bv_omega; done)); (focus (bv_omega; done)); (focus ((first | (simp; done) | with_unfolding_all decide); done))) | apply Zl.wq_slR | (apply Zl.wq_slL; (focus (bv_omega; done))) | (apply Zl.wp_gL; (focus (bv_omega; done)); (focus (with_unfolding_all rfl; done)))))
local macro_rules | `(tactic| ac_nf0) => `(tactic| first | rfl | decide | (simp; done) | (simp; omega))
namespace L55
open PySem L2 PySem.Spec PyProof.Rows Zl
def Pool (p : Nat) (M : Mem) : Prop := ∃ a b c : Int, M[p]? = some (.lst [.int a, .int b, .int c])
abbrev At (p : Nat) : Nat → Prop := fun n => n = p
theorem sp_draw {p : Nat} {m : Int} {M : Mem} (h : Pool p M) (hm : 0 < m) (hm2 : m < 1073741824) : Wp (m__law_draw [.loc p, .int m] M) fun d M' => (∃ r : Nat, d = .int r ∧ (r : Int) < m) ∧ Pool p M' ∧ Kp (At p) M M' := by
  obtain ⟨a, b, c, h⟩ := h
  refine wp_fn rfl [some (.loc p), some (.int m), none, none] rfl ?_
  unfold b__law_draw
  clean_wf
  refine wp_ixL h rfl ?_
  clean_wf
  refine ⟨_, set_i (j := 2) h rfl, ?_⟩
  have k1 : Kp (At p) M (M.set p (.lst ([.int a, .int b, .int c].set 2 (.int (c + 1))))) := .set fun _ => rfl
  have h1 := at_set (o := .lst ([.int a, .int b, .int c].set 2 (.int (c + 1)))) h
  generalize M.set p (.lst ([.int a, .int b, .int c].set 2 (.int (c + 1)))) = M1 at k1 h1
  clean_wf
  refine wp_ixL h1 rfl ?_
  clean_wf
  refine wp_modI (by decide) ?_
  clean_wf
  refine wp_mulI (.inr (by omega)) ?_
  clean_wf
  refine wp_ixL h1 rfl ?_
  refine wp_mulI (.inl (by decide)) ?_
  clean_wf
  refine wp_modI (by decide) ?_
  clean_wf
  refine ⟨_, set_i (j := 0) h1 rfl, ?_⟩
  generalize hv : ((a * (a % 50021 + 30011) + 80021 * (c + 1)) % 2147483249 : Int) = v
  have k2 : Kp (At p) M1 (M1.set p (.lst (([.int a, .int b, .int c].set 2 (.int (c + 1))).set 0 (.int v)))) := .set fun _ => rfl
  have h2 : (M1.set p (.lst (([.int a, .int b, .int c].set 2 (.int (c + 1))).set 0 (.int v))))[p]? = some (.lst [.int v, .int b, .int (c + 1)]) := at_set h1
  have k3 := k1.tr k2
  generalize M1.set p (.lst (([.int a, .int b, .int c].set 2 (.int (c + 1))).set 0 (.int v))) = M2 at k3 h2
  clean_wf
  refine wp_ixL h2 rfl ?_
  clean_wf
  by_cases hb : (0 : Int) < b
  · refine ki_of (decide_eq_true hb) ?_
    clean_wf
    refine wp_ixL h2 rfl ?_
    clean_wf
    refine wp_ev (if_pos ⟨hm, hm2⟩) ?_
    clean_wf
    refine ⟨_, set_i (j := 1) h2 rfl, ?_⟩
    clean_wf
    refine ⟨⟨(b % m).toNat, ?_, ?_⟩, ⟨v, b / m, c + 1, at_set h2⟩, k3.tr (.set fun _ => rfl)⟩
    · rw [Int.toNat_of_nonneg (Int.emod_nonneg _ (by omega))]
    · rw [Int.toNat_of_nonneg (Int.emod_nonneg _ (by omega))]
      exact Int.emod_lt_of_pos _ hm
  · refine ki_of (decide_eq_false hb) ?_
    clean_wf
    refine wp_ixL h2 rfl ?_
    clean_wf
    refine wp_fdivI (by decide) ?_
    clean_wf
    refine wp_modI hm ?_
    clean_wf
    refine ⟨⟨(v / 64 % m).toNat, ?_, ?_⟩, ⟨v, b, c + 1, h2⟩, k3⟩
    · rw [Int.toNat_of_nonneg (Int.emod_nonneg _ (by omega))]
    · rw [Int.toNat_of_nonneg (Int.emod_nonneg _ (by omega))]
      exact Int.emod_lt_of_pos _ hm

theorem Pool.keep {p n : Nat} {M : Mem} {o : Ob} (h : Pool p M) (e : p ≠ n) : Pool p (M.set n o) := by
  obtain ⟨a, b, c, h⟩ := h
  exact ⟨a, b, c, at_set_ne h (Ne.symm e)⟩
theorem Pool.app {p : Nat} {M L : Mem} (h : Pool p M) : Pool p (M ++ L) := by
  obtain ⟨a, b, c, h⟩ := h
  exact ⟨a, b, c, at_app h⟩
theorem Pool.lt {p : Nat} {M : Mem} (h : Pool p M) : p < M.length := by
  obtain ⟨a, b, c, h⟩ := h
  exact lt_of h
theorem Pool.kp {p : Nat} {M M' : Mem} (h : Pool p M) (k : Kp NoW M M') : Pool p M' := by
  obtain ⟨a, b, c, h⟩ := h
  exact ⟨a, b, c, k.at h id⟩
end L55

/-! text G2_55 -/
namespace L55
open PySem L2 PySem.Spec PyProof.Rows Zl
/-- names -/
def okName (x : Str) : Bool := decide (1 ≤ x.length) && decide (x.length ≤ 6) && x.cps.toList.all fun c => decide (c ∈ ("abcdefghijklmnopqrstuvwxyz" : Str).cps.toList)
def strsD (ws : List Str) : List Dv := ws.map .str
def intsN (ns : List Nat) : List Dv := ns.map fun n => .int (n : Nat)
theorem sp_pool {x : Int} {M : Mem} : Wp (m__law_pool [.int x] M) fun d M' => ∃ p, d = .loc p ∧ p = M.length ∧ Pool p M' ∧ Kp NoW M M' := by
  refine wp_fn rfl [some (.int x), none] rfl ?_
  unfold b__law_pool
  simp_wf
  by_cases h1 : x < 0
  · refine ki_of (decide_eq_true h1) ?_
    simp_wf
    refine wp_ev (a := .int (if x < 0 then -x else x)) rfl ?_
    simp_wf
    refine wp_modI (by decide) ?_
    simp_wf
    intro n1 M1 e1 g1 k1 l1
    simp_wf
    exact ⟨n1, rfl, e1, ⟨_, _, _, g1⟩, k1⟩
  · refine ki_of (decide_eq_false h1) ?_
    simp_wf
    refine wp_ev (a := .int 1000000000000000000) rfl ?_
    simp_wf
    by_cases h2 : (1000000000000000000 : Int) ≤ x
    · refine ki_of (decide_eq_true h2) ?_
      simp_wf
      refine wp_ev (a := .int (if x < 0 then -x else x)) rfl ?_
      simp_wf
      refine wp_modI (by decide) ?_
      simp_wf
      intro n1 M1 e1 g1 k1 l1
      simp_wf
      exact ⟨n1, rfl, e1, ⟨_, _, _, g1⟩, k1⟩
    · refine ki_of (decide_eq_false h2) ?_
      simp_wf
      refine wp_modI (by decide) ?_
      simp_wf
      intro n1 M1 e1 g1 k1 l1
      simp_wf
      exact ⟨n1, rfl, e1, ⟨_, _, _, g1⟩, k1⟩
theorem sp_cell {ns : List Int} {k : Nat} {M : Mem} (hk : k < 100) : Wp (m__law_cell [.rol (ns.map .int), .int (k : Nat)] M) fun d M' => (∃ x : Int, d = .int x) ∧ Kp NoW M M' := by
  refine wp_fn rfl [some (.rol (ns.map .int)), some (.int (k : Nat)), none, none] rfl ?_
  unfold b__law_cell
  simp_wf
  by_cases h : (k : Int) < ((ns.map Dv.int).length : Nat)
  · refine ki_of (decide_eq_true h) ?_
    simp_wf
    have h' : k < ns.length := by simpa using h
    refine wp_ixR (atI_n (x := Dv.int ns[k]) (by simp [h'])) ?_
    simp_wf
    exact ⟨⟨_, rfl⟩, .refl⟩
  · refine ki_of (decide_eq_false h) ?_
    simp_wf
    refine wp_mulI (.inr (by omega)) ?_
    simp_wf
    refine wp_mulI (.inl (by decide)) ?_
    simp_wf
    refine wp_mulI (.inl (by decide)) ?_
    simp_wf
    refine wp_modI (by decide) ?_
    simp_wf
    refine wp_for (fun i env M' => ∃ (x3 : Option Dv) (z : Int), env = [some (.rol (ns.map .int)), some (.int (k : Nat)), some (.int z), x3] ∧ M'[M.length]? = some (.lst (cutD (ns.map .int) none (some 3))) ∧ Kp NoW M M') ?_
    simp_wf
    refine ⟨_, rfl, ?_⟩
    refine wp_slR ?_
    rintro _ M1 rfl g1 k1 _
    refine ⟨_, src_loc g1, ⟨none, _, rfl, g1, k1⟩, ?_, ?_⟩
    · rintro i env M' hi ⟨x3, z, rfl, g2, k2⟩
      have hi' : i < (cutD (ns.map Dv.int) none (some 3)).length := hi
      have hm := cut_mem (List.getElem_mem hi')
      obtain ⟨v, _, hv⟩ := List.mem_map.mp hm
      refine ⟨.int v, by show stpL _ i M' = _; rw [stpL_at g2, List.getElem?_eq_getElem hi', hv], ?_⟩
      simp_wf
      refine wp_mulI (.inr (by decide)) ?_
      simp_wf
      refine wp_modI (by decide) ?_
      simp_wf
      exact ⟨_, _, rfl, g2, k2⟩
    · rintro env M' ⟨x3, z, rfl, g2, k2⟩
      refine ⟨by show stpL _ _ M' = _; rw [stpL_at g2]; simp, ?_⟩
      simp_wf
      exact ⟨⟨_, rfl⟩, k2⟩
end L55

/-! text A0_55 -/
namespace L55
open PySem L2 PySem.Spec PyProof.Rows Zl
structure Row where
  v : Nat
  s : Nat
  hits : List Nat
  deriving DecidableEq
structure Tb where
  l : Nat
  rows : List Row
  deriving DecidableEq
def rowD (r : Row) : Dv := .tup [.int (r.v : Nat), .int (r.s : Nat), .tup (intsN r.hits)]
def tabD (t : Tb) : Dv := .tup [.int (t.l : Nat), .tup (t.rows.map rowD)]
def OkR (l n : Nat) (r : Row) : Prop := r.v < l ∧ r.s < n ∧ r.hits.length = l ∧ ∀ h ∈ r.hits, h < n
structure OkT (t : Tb) : Prop where
  l1 : 1 ≤ t.l
  l4 : t.l ≤ 4
  r1 : 1 ≤ t.rows.length
  r64 : t.rows.length ≤ 64
  ok : ∀ r ∈ t.rows, OkR t.l t.rows.length r
theorem nats_of {s : Nat} : ∀ {xs ys : List Dv}, All2 (fun _ y => ∃ r : Nat, y = Dv.int r ∧ (r : Int) < s) xs ys → ∃ ns : List Nat, ys = intsN ns ∧ ns.length = xs.length ∧ ∀ n ∈ ns, n < s
  | _, _, .nil => ⟨[], rfl, rfl, fun n h => by simp at h⟩
  | _, _, .cons ⟨r, e, hr⟩ t => by
    obtain ⟨ns, e2, h2, h3⟩ := nats_of t
    refine ⟨r :: ns, by rw [e, e2]; rfl, by simp [h2], fun n hn => ?_⟩
    rcases List.mem_cons.mp hn with e | hn
    · omega
    · exact h3 n hn
end L55

/-! text G4_55 -/
namespace L55
open PySem L2 PySem.Spec PyProof.Rows Zl
theorem sp_integer {v : Int} {M : Mem} : Wp (m_is_integer [.int v] M) fun d M' => d = .bl true ∧ M' = M := by
  refine wp_fn rfl [some (.int v)] rfl ?_
  unfold b_is_integer
  simp_wf
  refine kc_of (c := true) rfl ?_
  simp_wf
  exact ⟨rfl, rfl⟩
theorem sp_between {v a b : Int} {M : Mem} (h1 : a ≤ v) (h2 : v ≤ b) : Wp (m_is_between [.int v, .int a, .int b] M) fun d M' => d = .bl true ∧ M' = M := by
  refine wp_fn rfl [some (.int v), some (.int a), some (.int b)] rfl ?_
  unfold b_is_between
  simp_wf
  refine sp_integer.go fun d M' ⟨e1, e2⟩ => ?_
  subst e1 e2
  simp_wf
  refine kc_of (decide_eq_true h1) ?_
  simp_wf
  exact ⟨by rw [decide_eq_true h2], rfl⟩
end L55

/-! text A8_55 -/
namespace L55
open PySem L2 PySem.Spec PyProof.Rows Zl
theorem sp_row {l n : Nat} {r : Row} {M : Mem} (h : OkR l n r) (hl : l ≤ 100) : Wp (m_is_row [rowD r, .int (l : Nat), .int (n : Nat)] M) fun d M' => d = .bl true ∧ Kp NoW M M' := by
  obtain ⟨h1, h2, h3, h4⟩ := h
  unfold rowD
  refine wp_fn rfl [some (.tup [.int (r.v : Nat), .int (r.s : Nat), .tup (intsN r.hits)]), some (.int (l : Nat)), some (.int (n : Nat)), none] rfl ?_
  unfold b_is_row
  simp_wf
  refine ki_of (c := false) rfl ?_
  simp_wf
  refine ki_of (c := false) rfl ?_
  simp_wf
  refine (sp_between (by omega) (by omega)).go fun d M' ⟨e1, e2⟩ => ?_
  subst e1 e2
  simp_wf
  refine ki_of (c := false) rfl ?_
  simp_wf
  refine (sp_between (by omega) (by omega)).go fun d M' ⟨e1, e2⟩ => ?_
  subst e1 e2
  simp_wf
  refine ki_of (c := false) rfl ?_
  simp_wf
  refine ki_of (c := false) rfl ?_
  simp_wf
  refine ki_of (c := false) (by simp [intsN, h3]) ?_
  simp_wf
  refine wp_lcP (fun _ => .bl true) ?_
  simp_wf
  refine ⟨_, rfl, intsN r.hits, rfl, by simp [intsN, h3]; show _ ≤ 2 ^ 24; omega, fun _ _ _ _ => rfl, ?_, ?_⟩
  · intro x hx M1 k1
    obtain ⟨a, ha, rfl⟩ := List.mem_map.mp hx
    have := h4 a ha
    simp_wf
    refine (sp_between (by omega) (by omega)).go fun d M' ⟨e1, e2⟩ => ?_
    subst e1 e2
    exact ⟨rfl, .refl⟩
  · intro M1 k1 g1
    simp_wf
    refine wp_all g1 (bls_all (by simp)) ?_
    simp_wf
    refine ⟨?_, k1⟩
    simp
theorem sp_isPolicy {t : Tb} {M : Mem} (h : OkT t) : Wp (m_is_policy [tabD t] M) fun d M' => d = .bl true ∧ Kp NoW M M' := by
  obtain ⟨h1, h2, h3, h4, h5⟩ := h
  unfold tabD
  refine wp_fn rfl [some (.tup [.int (t.l : Nat), .tup (t.rows.map rowD)]), none, none, none] rfl ?_
  unfold b_is_policy c_MOST_LINES c_MOST_STATES
  simp_wf
  refine ki_of (c := false) rfl ?_
  simp_wf
  refine ki_of (c := false) rfl ?_
  simp_wf
  refine (sp_between (by omega) (by omega)).go fun d M' ⟨e1, e2⟩ => ?_
  subst e1 e2
  simp_wf
  refine ki_of (c := false) rfl ?_
  simp_wf
  refine ki_of (c := false) rfl ?_
  simp_wf
  refine kc_of (c := true) (decide_eq_true (by rw [List.length_map]; omega)) ?_
  simp_wf
  refine ki_of (c := false) (by rw [decide_eq_true (by rw [List.length_map]; omega)]; rfl) ?_
  simp_wf
  refine wp_lcP (fun _ => .bl true) ?_
  simp_wf
  refine ⟨_, rfl, t.rows.map rowD, rfl, by rw [List.length_map]; show _ ≤ 2 ^ 24; omega, fun _ _ _ _ => rfl, ?_, ?_⟩
  · intro x hx M1 k1
    obtain ⟨a, ha, rfl⟩ := List.mem_map.mp hx
    simp_wf
    have := h5 a ha
    rw [List.length_map]
    exact sp_row this (by omega)
  · intro M1 k1 g1
    simp_wf
    refine wp_all g1 (bls_all (by simp)) ?_
    simp_wf
    refine ⟨?_, k1⟩
    simp
end L55

/-! text D1_55 -/
namespace L55
open PySem L2 PySem.Spec PyProof.Rows Zl
/-! ## rules: dicts with nested keys, lists in step -/
theorem wq_dict1N {fk fv : FE} {env : En} {M : Mem} {q : QE} (h : kNew (.dct []) (fun n M0 => Wp (fk env M0) fun kd M1 => Wp (fv env M1) fun vd M2 => ∃ k, M2[n]? = some (.dct []) ∧ keyN kd = some k ∧ kWr n (.dcn (putN [] k kd vd)) (fun M' => q (.loc n) M') M2) M) : Wp (fDict1N fk fv env M) q := by
  have h' := h M.length (M ++ [.dct []]) rfl at_new (.app _) (by simp)
  unfold fDict1N
  refine wp_bnd (h'.go fun kd M1 w => wp_bnd (w.go ?_))
  rintro vd M2 ⟨k, h1, h2, h3⟩
  simp only [h1, h2]
  exact wp_ok (h3 _ (at_set h1) (.set fun _ => rfl) (by simp))
theorem wq_dict1K {fk fv : FE} {env : En} {M : Mem} {q : QE} (h : kNew (.dct []) (fun n M0 => Wp (fk env M0) fun kd M1 => Wp (fv env M1) fun vd M2 => ∃ k, M2[n]? = some (.dct []) ∧ keyD kd = some k ∧ kWr n (.dct (putDk [] k vd)) (fun M' => q (.loc n) M') M2) M) : Wp (fDict1K fk fv env M) q := by
  have h' := h M.length (M ++ [.dct []]) rfl at_new (.app _) (by simp)
  unfold fDict1K
  refine wp_bnd (h'.go fun kd M1 w => wp_bnd (w.go ?_))
  rintro vd M2 ⟨k, h1, h2, h3⟩
  simp only [h1, h2]
  exact wp_ok (h3 _ (at_set h1) (.set fun _ => rfl) (by simp))
theorem wp_inN {b : Bool} {d : Dv} {n : Nat} {kvs : List (NestedKey × Dv × Dv)} {k : NestedKey} {M : Mem} {q : QE} (hm : M[n]? = some (.dcn kvs)) (hk : keyN d = some k) (h : q (.bl (xor b (valN kvs k).isSome)) M) : Wp (inE b d (.loc n) M) q :=
  wp_ev (by unfold inE; simp only [hm, hk]) h
theorem wp_ixN {d v : Dv} {n : Nat} {kvs : List (NestedKey × Dv × Dv)} {k : NestedKey} {M : Mem} {q : QE} (hm : M[n]? = some (.dcn kvs)) (hk : keyN d = some k) (hv : valN kvs k = some v) (h : q v M) : Wp (ixE (.loc n) d M) q :=
  wp_ev (by unfold ixE; simp only [hm, hk, hv]) h
theorem k_setDn {i d : Dv} {n : Nat} {kvs : List (NestedKey × Dv × Dv)} {k : NestedKey} {M : Mem} {q : Mem → Prop} (hm : M[n]? = some (.dcn kvs)) (hk : keyN i = some k) (hl : kvs.length ≤ 1000000) (h : kWr n (.dcn (putN kvs k i d)) q M) : kSet (.loc n) i d q M :=
  ⟨_, by unfold setE; simp only [hm, hk, if_pos (size_lt (Nat.le_trans hl (by decide)))], h _ (at_set hm) (.set fun _ => rfl) (by simp)⟩
theorem keyD_tup {d : Dv} {k : NestedKey} (h : keyN d = some k) : keyD d = none := by
  cases d <;> first | rfl | cases h
theorem wp_in0 {b : Bool} {d : Dv} {n : Nat} {k : NestedKey} {M : Mem} {q : QE} (hm : M[n]? = some (.dct [])) (hk : keyN d = some k) (h : q (.bl (xor b false)) M) : Wp (inE b d (.loc n) M) q :=
  wp_ev (by unfold inE; simp only [hm, hk, keyD_tup hk]) (M' := M) (a := .bl (xor b false)) h
theorem k_set0 {i d : Dv} {n : Nat} {k : NestedKey} {M : Mem} {q : Mem → Prop} (hm : M[n]? = some (.dct [])) (hk : keyN i = some k) (h : kWr n (.dcn (putN [] k i d)) q M) : kSet (.loc n) i d q M :=
  ⟨_, by unfold setE; simp only [hm, hk, keyD_tup hk], h _ (at_set hm) (.set fun _ => rfl) (by simp)⟩
theorem wp_lenN {n : Nat} {kvs : List (NestedKey × Dv × Dv)} {M : Mem} {q : QE} (hm : M[n]? = some (.dcn kvs)) (h : q (.int (kvs.length : Nat)) M) : Wp (lenE [.loc n] M) q := wp_ev (by unfold lenE; simp only [hm]) h
theorem wp_lenK {n : Nat} {kvs : List (Key × Dv)} {M : Mem} {q : QE} (hm : M[n]? = some (.dct kvs)) (h : q (.int (kvs.length : Nat)) M) : Wp (lenE [.loc n] M) q := wp_ev (by unfold lenE; simp only [hm]) h
theorem wp_lenS {n : Nat} {xs : List Int} {M : Mem} {q : QE} (hm : M[n]? = some (.st xs)) (h : q (.int (xs.length : Nat)) M) : Wp (lenE [.loc n] M) q := wp_ev (by unfold lenE; simp only [hm]) h
theorem wp_inK {b : Bool} {d : Dv} {n : Nat} {kvs : List (Key × Dv)} {k : Key} {M : Mem} {q : QE} (hm : M[n]? = some (.dct kvs)) (hk : keyD d = some k) (h : q (.bl (xor b (valD kvs k).isSome)) M) : Wp (inE b d (.loc n) M) q :=
  wp_ev (by unfold inE; simp only [hm, hk]) h
theorem wp_ixK {d v : Dv} {n : Nat} {kvs : List (Key × Dv)} {k : Key} {M : Mem} {q : QE} (hm : M[n]? = some (.dct kvs)) (hk : keyD d = some k) (hv : valD kvs k = some v) (h : q v M) : Wp (ixE (.loc n) d M) q :=
  wp_ev (by unfold ixE; simp only [hm, hk, hv]) h
theorem ints_of : ∀ ns : List Nat, intsOf (intsN ns) = some (ns.map Int.ofNat)
  | [] => rfl
  | n :: ns => by
    show (match intsOf (intsN ns) with | some is => some ((n : Int) :: is) | none => none) = _
    rw [ints_of ns]; rfl
theorem wq_set {n : Nat} {ns : List Nat} {M : Mem} {q : QE} (hm : M[n]? = some (.lst (intsN ns))) (hl : ns.length < 4000) (h : kNew (.st (dedupI (ns.map Int.ofNat))) (fun n M2 => q (.loc n) M2) M) : Wp (setOfD [.loc n] M) q := by
  refine wp_ev (a := .loc M.length) (M' := M ++ [.st (dedupI (ns.map Int.ofNat))]) ?_ (h _ _ rfl at_new (.app _) (by simp))
  unfold setOfD
  simp only [hm, ints_of]
  rw [if_pos (by simpa using hl)]
/-! two lists in step -/
def stpZL (m n : Nat) : Stp := fun i M => match M[m]?, M[n]? with
  | some (.lst xs), some (.lst ys) => some (zipAt xs ys i)
  | _, _ => none
theorem k_zipL {m n : Nat} {xs ys : List Dv} {M : Mem} {qi : Src → Mem → Prop} (hm : M[m]? = some (.lst xs)) (hn : M[n]? = some (.lst ys)) (h : qi ⟨min xs.length ys.length, stpZL m n⟩ M) : kZip qi (.loc m) (.loc n) M :=
  ⟨⟨min xs.length ys.length, stpZL m n⟩, by unfold srcZ; simp only [hm, hn]; rfl, h⟩
theorem stpZL_at {m n i : Nat} {xs ys : List Dv} {M : Mem} (hm : M[m]? = some (.lst xs)) (hn : M[n]? = some (.lst ys)) : stpZL m n i M = some (zipAt xs ys i) := by unfold stpZL; rw [hm, hn]
theorem k_forZL {env : En} {M : Mem} {g : FG} {f : FS} {Q : QS} {m n : Nat} {xs ys : List Dv} {I : Nat → En → Mem → Prop} (hl : xs.length = ys.length) (hm : ∀ i env M, I i env M → M[m]? = some (.lst xs) ∧ M[n]? = some (.lst ys)) (h0 : I 0 env M)
    (h1 : ∀ i d e env M, xs[i]? = some d → ys[i]? = some e → I i env M → Wp (g (.pr [d, e]) env M) fun e1 M1 => Wp (f e1 M1) (kLoop (I (i + 1)) Q)) (h2 : ∀ env M, I xs.length env M → Q (.nx env) M) : kFor I g f env Q ⟨min xs.length ys.length, stpZL m n⟩ M := by
  have e0 : min xs.length ys.length = xs.length := by omega
  refine ⟨h0, fun i env M hi hh => ?_, fun env M hh => ?_⟩
  · have hi' : i < xs.length := by have : i < min xs.length ys.length := hi; omega
    obtain ⟨a, b⟩ := hm i env M hh
    refine ⟨_, (stpZL_at a b).trans (congrArg some (zip_at (List.getElem?_eq_getElem hi') (List.getElem?_eq_getElem (by omega)))), h1 i _ _ env M (List.getElem?_eq_getElem hi') (List.getElem?_eq_getElem (by omega)) hh⟩
  · obtain ⟨a, b⟩ := hm _ env M hh
    exact ⟨(stpZL_at a b).trans (congrArg some zip_end), h2 env M (by rw [← e0]; exact hh)⟩
/-! ## numbering -/
section
variable {α : Type} [DecidableEq α]
def ixOf (x : α) : List α → Nat
  | [] => 0
  | y :: ys => if y = x then 0 else ixOf x ys + 1
theorem ix_new {x : α} : ∀ {xs : List α}, x ∉ xs → ixOf x (xs ++ [x]) = xs.length
  | [], _ => by show (if x = x then 0 else _) = 0; rw [if_pos rfl]
  | y :: ys, h => by
    have h1 : ¬ y = x := fun e => h (by simp [e])
    show (if y = x then 0 else ixOf x (ys ++ [x]) + 1) = _
    rw [if_neg h1, ix_new fun m => h (List.mem_cons_of_mem _ m)]; rfl
def placeOf (o : List α) (s : α) : Nat × List α := if s ∈ o then (ixOf s o, o) else (o.length, o ++ [s])
def places : List α → List α → List Nat × List α
  | o, [] => ([], o)
  | o, s :: ss => ((placeOf o s).1 :: (places (placeOf o s).2 ss).1, (places (placeOf o s).2 ss).2)
theorem places_len : ∀ (o ss : List α), (places o ss).1.length = ss.length
  | _, [] => rfl
  | o, s :: ss => by show (places (placeOf o s).2 ss).1.length + 1 = _; rw [places_len]; rfl
theorem places_app : ∀ (o xs ys : List α), places o (xs ++ ys) = ((places o xs).1 ++ (places (places o xs).2 ys).1, (places (places o xs).2 ys).2)
  | _, [], _ => rfl
  | o, x :: xs, ys => by
    show ((placeOf o x).1 :: (places (placeOf o x).2 (xs ++ ys)).1, (places (placeOf o x).2 (xs ++ ys)).2) = _
    rw [places_app]; rfl
theorem place_len (o : List α) (s : α) : (placeOf o s).2.length ≤ o.length + 1 := by
  unfold placeOf
  split <;> simp
theorem places_more : ∀ (o ss : List α), (places o ss).2.length ≤ o.length + ss.length
  | _, [] => Nat.le_refl _
  | o, s :: ss => by
    have h1 := places_more (placeOf o s).2 ss
    have h2 := place_len o s
    show (places (placeOf o s).2 ss).2.length ≤ _
    rw [List.length_cons]; omega
variable (κ : α → NestedKey) (δ : α → Dv)
def enN (xs : List α) : List (NestedKey × Dv × Dv) := xs.zipIdx.map fun p => (κ p.1, δ p.1, .int (p.2 : Nat))
variable {κ δ}
theorem val_cons {kv : NestedKey × Dv × Dv} {kvs : List (NestedKey × Dv × Dv)} {k : NestedKey} : valN (kv :: kvs) k = if kv.1 = k then some kv.2.2 else valN kvs k := by
  unfold valN
  rw [List.find?_cons]
  by_cases h : kv.1 = k
  · rw [if_pos h]; simp [h]
  · rw [if_neg h]; simp [h]
theorem val_en (inj : ∀ a b, κ a = κ b → a = b) (x : α) : ∀ (xs : List α) (o : Nat), valN ((xs.zipIdx o).map fun p => (κ p.1, δ p.1, .int (p.2 : Nat))) (κ x) = if x ∈ xs then some (.int ((o + ixOf x xs : Nat) : Int)) else none
  | [], o => rfl
  | y :: ys, o => by
    rw [List.zipIdx_cons, List.map_cons, val_cons, val_en inj x ys (o + 1)]
    by_cases h : y = x
    · subst h
      rw [if_pos rfl, if_pos (List.mem_cons_self ..)]
      simp [ixOf]
    · rw [if_neg fun e => h (inj _ _ e)]
      have h' : ¬ x = y := fun e => h e.symm
      by_cases hm : x ∈ ys
      · rw [if_pos hm, if_pos (List.mem_cons_of_mem _ hm)]
        have hb : ixOf x (y :: ys) = ixOf x ys + 1 := by show (if y = x then 0 else _) = _; rw [if_neg h]
        rw [hb]
        congr 3
        omega
      · rw [if_neg hm, if_neg (by simp [h', hm])]
theorem val_enN (inj : ∀ a b, κ a = κ b → a = b) (x : α) (xs : List α) : valN (enN κ δ xs) (κ x) = if x ∈ xs then some (.int ((ixOf x xs : Nat) : Int)) else none := by
  have := val_en (δ := δ) inj x xs 0
  rw [Nat.zero_add] at this
  exact this
theorem put_enN (inj : ∀ a b, κ a = κ b → a = b) {x : α} {xs : List α} (h : x ∉ xs) : putN (enN κ δ xs) (κ x) (δ x) (.int (xs.length : Nat)) = enN κ δ (xs ++ [x]) := by
  unfold putN
  rw [val_enN inj, if_neg h]
  show enN κ δ xs ++ _ = _
  unfold enN
  rw [List.zipIdx_append, List.map_append]
  simp
theorem en_len {xs : List α} : (enN κ δ xs).length = xs.length := by simp [enN]
end
end L55

/-! text D2_55 -/
namespace L55
open PySem L2 PySem.Spec PyProof.Rows Zl
/-! ## stages -/
abbrev Stg := Nat × List Nat
def stgD (s : Stg) : Dv := .tup [.int (s.1 : Nat), .tup (intsN s.2)]
def stgK (s : Stg) : NestedKey := .tup [.num (s.1 : Nat), .tup (s.2.map fun n => .num (n : Nat))]
theorem nk_ints {n : Nat} : ∀ ns : List Nat, nkL (nkN n) (intsN ns) = some (ns.map fun n => .num (n : Nat))
  | [] => rfl
  | p :: st => by
    show (match nkN n (.int (p : Nat)) with | some k => (match nkL (nkN n) (intsN st) with | some ks => some (k :: ks) | none => none) | none => none) = _
    rw [nk_ints st]
    cases n <;> rfl
theorem key_stg (s : Stg) : keyN (stgD s) = some (stgK s) := by
  show (match nkL (nkN 7) [.int (s.1 : Nat), .tup (intsN s.2)] with | some ks => some (NestedKey.tup ks) | none => none) = _
  have h2 : nkN 7 (.tup (intsN s.2)) = some (.tup (s.2.map fun n => .num (n : Nat))) := by
    show (match nkL (nkN 6) (intsN s.2) with | some ks => some (NestedKey.tup ks) | none => none) = _
    rw [nk_ints]
  unfold nkL nkL
  simp only [h2]
  rfl
theorem map_inj {α β : Type} {f : α → β} (hf : ∀ a b, f a = f b → a = b) : ∀ {xs ys : List α}, xs.map f = ys.map f → xs = ys
  | [], [], _ => rfl
  | [], _ :: _, h => by cases h
  | _ :: _, [], h => by cases h
  | x :: xs, y :: ys, h => by
    simp only [List.map_cons, List.cons.injEq] at h
    rw [hf _ _ h.1, map_inj hf h.2]
theorem num_inj (a b : Nat) (h : NestedKey.num (a : Nat) = NestedKey.num (b : Nat)) : a = b := Int.ofNat_inj.mp (NestedKey.num.inj h)
theorem stg_inj (a b : Stg) (h : stgK a = stgK b) : a = b := by
  unfold stgK at h
  simp only [NestedKey.tup.injEq, List.cons.injEq, and_true] at h
  exact Prod.ext (num_inj _ _ h.1) (map_inj num_inj h.2)
def rwOf (t : Tb) (i : Nat) : Row := t.rows.getD i ⟨0, 0, []⟩
theorem rw_at {t : Tb} {i : Nat} (h : i < t.rows.length) : t.rows[i]? = some (rwOf t i) := by
  unfold rwOf
  rw [List.getD_eq_getElem?_getD, List.getElem?_eq_getElem h]; rfl
theorem ints_at {ns : List Nat} {i n : Nat} (h : ns[i]? = some n) : (intsN ns)[i]? = some (.int (n : Nat)) := by unfold intsN; rw [List.getElem?_map, h]; rfl
def afterMiss (t : Tb) (s : Stg) : Nat × Stg := if (rwOf t s.1).v ∈ s.2 then (s.2.idxOf (rwOf t s.1).v, ((rwOf t s.1).s, s.2)) else (s.2.length, ((rwOf t s.1).s, s.2 ++ [(rwOf t s.1).v]))
def afterHits (t : Tb) (s : Stg) : List Stg := s.2.map fun l => ((rwOf t s.1).hits.getD l 0, s.2)
theorem any_ints {v : Nat} : ∀ {ns : List Nat}, ((intsN ns).any fun y => eqF y (.int (v : Nat))) = decide (v ∈ ns)
  | [] => rfl
  | n :: ns => by
    show (eqF (.int (n : Nat)) (.int (v : Nat)) || (intsN ns).any fun y => eqF y (.int (v : Nat))) = _
    rw [any_ints]
    have e : eqF (.int (n : Nat)) (.int (v : Nat)) = decide (v = n) := by
      show decide ((n : Int) = (v : Int)) = _
      exact decide_eq_decide.mpr (by omega)
    rw [e]
    simp
theorem idx_ints {v : Nat} : ∀ {ns : List Nat}, v ∈ ns → idxB (fun y => eqF y (.int (v : Nat))) (intsN ns) = some (ns.idxOf v)
  | [], h => by simp at h
  | n :: ns, h => by
    have e : eqF (.int (n : Nat)) (.int (v : Nat)) = decide (n = v) := by
      show decide ((n : Int) = (v : Int)) = _
      exact decide_eq_decide.mpr (by omega)
    show idxB (fun y => eqF y (.int (v : Nat))) (.int (n : Nat) :: intsN ns) = _
    unfold idxB
    simp only [e]
    by_cases hn : n = v
    · subst hn
      simp
    · have hb : (n == v) = false := by simpa using hn
      have h' : v ∈ ns := by
        rcases List.mem_cons.mp h with e | h
        · exact absurd e.symm hn
        · exact h
      rw [idx_ints h', List.idxOf_cons, hb]
      simp [hn]
theorem flat_ints {ns : List Nat} : (intsN ns).all flatD = true := by
  unfold intsN
  rw [List.all_map]
  exact List.all_eq_true.mpr fun _ _ => rfl
theorem wp_star {fa : FE} {fr : FA} {env : En} {M : Mem} {q : List Dv → Mem → Prop} (h : Wp (fa env M) fun d M1 => ∃ xs, d = .tup xs ∧ Wp (fr env M1) fun ds M2 => q (xs ++ ds) M2) : Wp (fStarE fa fr env M) q := by
  refine wp_bnd (h.go ?_)
  rintro d M1 ⟨xs, rfl, w⟩
  exact wp_bnd (w.go fun ds M2 h => wp_ok h)
theorem noList {h : FM} {env : En} {M : Mem} {fa : FE} {fr : FA} {xs : List Dv} (e : fa env M = some (.tup xs, M)) : fM "list" h fa fr env M = none := by
  unfold fM bnd
  rw [e]
  rfl
theorem sp_afterMiss {t : Tb} {s : Stg} {M : Mem} (hs : s.1 < t.rows.length) (hl : s.2.length ≤ 100) : Wp (m_after_miss [tabD t, stgD s] M) fun d M' => d = .tup [.int ((afterMiss t s).1 : Nat), stgD (afterMiss t s).2] ∧ M' = M := by
  have hr : (t.rows.map rowD)[s.1]? = some (.tup [.int ((rwOf t s.1).v : Nat), .int ((rwOf t s.1).s : Nat), .tup (intsN (rwOf t s.1).hits)]) := by rw [List.getElem?_map, rw_at hs]; rfl
  refine wp_fn rfl [some (.tup [.int (t.l : Nat), .tup (t.rows.map rowD)]), some (.tup [.int (s.1 : Nat), .tup (intsN s.2)]), none, none, none, none, none] rfl ?_
  unfold b_after_miss
  array_get_dec
  refine wp_inT (by unfold inE inD; simp only [flat_ints]; rfl) ?_
  rw [any_ints]
  array_get_dec
  by_cases h : (rwOf t s.1).v ∈ s.2
  · refine ki_of (c := true) (by simp [h]) ?_
    array_get_dec
    refine wp_or2 (noList rfl) ?_
    array_get_dec
    refine wp_ev (a := .int ((s.2.idxOf (rwOf t s.1).v : Nat) : Int)) (M' := M) ?_ ?_
    · unfold tindexD
      simp only [flat_ints, idx_ints h]; rfl
    array_get_dec
    refine ⟨?_, rfl⟩
    unfold afterMiss
    rw [if_pos h]; rfl
  · refine ki_of (c := false) (by simp [h]) ?_
    array_get_dec
    refine wp_star ?_
    array_get_dec
    refine ⟨_, rfl, ?_⟩
    array_get_dec
    refine ⟨size_le (by simp [intsN]; omega), ?_⟩
    array_get_dec
    refine ⟨?_, rfl⟩
    unfold afterMiss
    rw [if_neg h]
    simp [stgD, intsN]
theorem sp_afterHits {t : Tb} {s : Stg} {M : Mem} (ht : OkT t) (hs : s.1 < t.rows.length) (hl : s.2.length ≤ 100) (hx : ∀ x ∈ s.2, x < t.l) : Wp (m_after_hits [tabD t, stgD s] M) fun d M' => ∃ n, d = .loc n ∧ n = M.length ∧ M'[n]? = some (.lst ((afterHits t s).map stgD)) ∧ Kp NoW M M' := by
  have hr : (t.rows.map rowD)[s.1]? = some (.tup [.int ((rwOf t s.1).v : Nat), .int ((rwOf t s.1).s : Nat), .tup (intsN (rwOf t s.1).hits)]) := by rw [List.getElem?_map, rw_at hs]; rfl
  have hh := (ht.ok _ (List.mem_of_getElem? (rw_at hs))).2.2.1
  refine wp_fn rfl [some (.tup [.int (t.l : Nat), .tup (t.rows.map rowD)]), some (.tup [.int (s.1 : Nat), .tup (intsN s.2)]), none, none, none, none] rfl ?_
  unfold b_after_hits
  array_get_dec
  refine wq_map (fun x => match x with | .int i => stgD ((rwOf t s.1).hits.getD i.toNat 0, s.2) | _ => .non) ?_
  array_get_dec
  refine k_mapT (size_le (by simp [intsN]; omega)) ?_ ?_
  · intro y hy M1 k1
    obtain ⟨x, hx', rfl⟩ := List.mem_map.mp hy
    have := hx x hx'
    have e : (intsN (rwOf t s.1).hits)[x]? = some (.int (((rwOf t s.1).hits.getD x 0 : Nat) : Int)) := by
      refine ints_at ?_
      rw [List.getD_eq_getElem?_getD, List.getElem?_eq_getElem (by omega)]; rfl
    array_get_dec
    exact ⟨rfl, .refl⟩
  · intro n M1 e1 l1 k1 g1
    array_get_dec
    refine ⟨n, rfl, e1, ?_, k1⟩
    rw [g1]
    unfold afterHits intsN
    rw [List.map_map, List.map_map]
    rfl
end L55

/-! text D3_55 -/
namespace L55
open PySem L2 PySem.Spec PyProof.Rows Zl
/-! ## the stages to which histories lead -/
abbrev SRow := Nat × Nat × List Nat
def srD (r : SRow) (n : Nat) : Dv := .tup [.int (r.1 : Nat), .int (r.2.1 : Nat), .loc n]
structure StAt (c o p r : Nat) (ord : List Stg) (rows : List SRow) (ls : List Nat) (M : Mem) : Prop where
  hc : M[c]? = some (.ins 0 [("order", .loc o), ("places", .loc p), ("rows", .loc r)])
  ho : M[o]? = some (.lst (ord.map stgD))
  hp : M[p]? = some (.dcn (enN stgK stgD ord))
  hr : M[r]? = some (.lst (List.zipWith srD rows ls))
  hl : ∀ (i n : Nat) w, ls[i]? = some n → rows[i]? = some w → M[n]? = some (.lst (intsN w.2.2))
  hn : ls.length = rows.length
  co : c < o
  op : o < p
  pr : p < r
  rl : ∀ n ∈ ls, r < n
section
variable {c o p r : Nat} {ord : List Stg} {rows : List SRow} {ls : List Nat} {M M' : Mem}
theorem StAt.kp {W : Nat → Prop} (h : StAt c o p r ord rows ls M) (k : Kp W M M') (hW : ∀ n, W n → n ≠ c ∧ n ≠ o ∧ n ≠ p ∧ n ≠ r ∧ n ∉ ls) : StAt c o p r ord rows ls M' :=
  ⟨k.at h.hc fun w => (hW _ w).1 rfl, k.at h.ho fun w => (hW _ w).2.1 rfl, k.at h.hp fun w => (hW _ w).2.2.1 rfl, k.at h.hr fun w => (hW _ w).2.2.2.1 rfl, fun i n w h1 h2 => k.at (h.hl i n w h1 h2) fun z => (hW _ z).2.2.2.2 (List.mem_of_getElem? h1), h.hn, h.co, h.op, h.pr, h.rl⟩
theorem StAt.kpN (h : StAt c o p r ord rows ls M) (k : Kp NoW M M') : StAt c o p r ord rows ls M' := h.kp k fun _ w => w.elim
abbrev OP (o p : Nat) : Nat → Prop := fun n => n = o ∨ n = p
theorem sp_placeOf {s : Stg} (h : StAt c o p r ord rows ls M) (hl : ord.length ≤ 100000) : Wp (m_Stages_place_of [.loc c, stgD s] M) fun d M' => d = .int ((placeOf ord s).1 : Nat) ∧ StAt c o p r (placeOf ord s).2 rows ls M' ∧ Kp (OP o p) M M' := by
  have hc := h.hc
  have ho := h.ho
  have hp := h.hp
  have h1 := h.co
  have h2 := h.op
  have h3 := h.pr
  have hrl := h.rl
  have hv := val_enN (δ := stgD) stg_inj s ord
  have hk := key_stg s
  refine wp_fn rfl [some (.loc c), some (stgD s)] rfl ?_
  unfold b_Stages_place_of
  array_get_dec
  refine wp_inN hp hk ?_
  array_get_dec
  by_cases hs : s ∈ ord
  · rw [if_pos hs] at hv
    refine ki_of (c := false) (by rw [hv]; rfl) ?_
    array_get_dec
    refine wp_ixN hp hk hv ?_
    array_get_dec
    have e : placeOf ord s = (ixOf s ord, ord) := by unfold placeOf; rw [if_pos hs]
    rw [e]
    exact ⟨rfl, h, .refl⟩
  · rw [if_neg hs] at hv
    refine ki_of (c := true) (by rw [hv]; rfl) ?_
    array_get_dec
    refine k_setDn hp hk (by rw [en_len]; omega) ?_
    array_get_dec
    rename_i M1 g1 k1 l1
    have hc1 := k1.at hc (by omega)
    have ho1 := k1.at ho (by omega)
    array_get_dec
    refine wq_append ho1 (size_lt (by rw [List.length_map]; omega)) ?_
    array_get_dec
    rename_i M2 g2 k2 l2
    have hc2 := k2.at hc1 (by omega)
    have g12 := k2.at g1 (by omega)
    array_get_dec
    rw [List.length_map, put_enN stg_inj hs] at g12
    have hv2 := val_enN (δ := stgD) stg_inj s (ord ++ [s])
    rw [if_pos (by simp)] at hv2
    refine wp_ixN g12 hk hv2 ?_
    array_get_dec
    have e : placeOf ord s = (ord.length, ord ++ [s]) := by unfold placeOf; rw [if_neg hs]
    have e2 : ixOf s (ord ++ [s]) = ord.length := ix_new hs
    rw [e, e2]
    have kk : Kp (OP o p) M M2 := ((Kp.refl (W := OP o p)).trans k1 fun n _ e => .inr e).trans k2 fun n _ e => .inl e
    refine ⟨rfl, ⟨hc2, by rw [g2, List.map_append]; rfl, g12, kk.at h.hr (by unfold OP; omega), fun i n w a b => kk.at (h.hl i n w a b) ?_, h.hn, h1, h2, h3, hrl⟩, kk⟩
    have := hrl n (List.mem_of_getElem? a)
    unfold OP; omega
end
end L55

/-! text D4_55 -/
namespace L55
open PySem L2 PySem.Spec PyProof.Rows Zl
def stgOk (t : Tb) (s : Stg) : Bool := decide (s.1 < t.rows.length) && decide (s.2.length ≤ 100) && s.2.all fun x => decide (x < t.l)
def stagesF (t : Tb) : Nat → List Stg → List SRow → Option (List Stg × List SRow)
  | 0, _, _ => none
  | f + 1, o, rs => match o[rs.length]? with
    | none => some (o, rs)
    | some s => if stgOk t s && decide (o.length ≤ 3000) then
        stagesF t f (places (placeOf o (afterMiss t s).2).2 (afterHits t s)).2 (rs ++ [((afterMiss t s).1, (placeOf o (afterMiss t s).2).1, (places (placeOf o (afterMiss t s).2).2 (afterHits t s)).1)])
      else none
section
variable {c o p r : Nat} {ord : List Stg} {rows : List SRow} {ls : List Nat} {M M' : Mem}
theorem StAt.lt (h : StAt c o p r ord rows ls M) : r < M.length ∧ ∀ n ∈ ls, n < M.length := by
  refine ⟨lt_of h.hr, fun n hn => ?_⟩
  obtain ⟨i, hi, rfl⟩ := List.mem_iff_getElem.mp hn
  have hi2 : i < rows.length := by have := h.hn; omega
  exact lt_of (h.hl i _ _ (List.getElem?_eq_getElem hi) (List.getElem?_eq_getElem hi2))
theorem take_succ_of {α : Type} {xs : List α} {i : Nat} {x : α} (h : xs[i]? = some x) : xs.take (i + 1) = xs.take i ++ [x] := by
  rw [List.take_add_one, h]; rfl
/-- [self.place_of(goal) for goal in goals] -/
theorem lc_place {env : En} {gs : List Stg} {fg : FE} (he : env[0]? = some (some (.loc c))) (h6 : 6 < env.length) (h : StAt c o p r ord rows ls M) (hl : ord.length + gs.length ≤ 50000) {q : QE}
    (hg : Wp (fg env M) fun d M1 => ∃ h, d = .loc h ∧ h = M.length ∧ M1[h]? = some (.lst (gs.map stgD)) ∧ Kp NoW M M1)
    (hq : ∀ n M2, M.length < n → M2[n]? = some (.lst (intsN (places ord gs).1)) → StAt c o p r (places ord gs).2 rows ls M2 → Kp (OP o p) M M2 → q (.loc n) M2) :
    Wp (fComp (fSrc fg) [6] (gN 6) fYes (fMeth 0 "place_of" 2 m_Stages_place_of (fV 0) (fCons (fV 6) fNil)) env M) q := by
  have z := h.lt
  have h1 := h.co
  have h2 := h.op
  have h3 := h.pr
  refine wp_lcI (fun n i acc M' => M.length < n ∧ i ≤ gs.length ∧ acc = intsN (places ord (gs.take i)).1 ∧ StAt c o p r (places ord (gs.take i)).2 rows ls M' ∧ M'[n]? = some (.lst acc) ∧ M'[M.length]? = some (.lst (gs.map stgD)) ∧ Kp (OP o p) M M') ?_
  refine wq_src (hg.go ?_)
  rintro _ M1 ⟨_, rfl, rfl, g1, k1⟩
  have l1 := lt_of g1
  refine k_srcL g1 ⟨fun i acc M' hh => hh.2.2.2.2.1, ⟨l1, Nat.zero_le _, rfl, (h.kpN k1).kpN (.app _), at_new, at_app g1, ((Kp.refl (W := OP o p)).trN k1).trN (.app _)⟩, ?_, ?_⟩
  · rintro i acc M2 hi ⟨a0, a1, a2, a3, a4, a5, a6⟩
    have hi' : i < gs.length := by have : i < (gs.map stgD).length := hi; simpa using this
    have ei : gs[i]? = some gs[i] := List.getElem?_eq_getElem hi'
    refine ⟨stgD gs[i], by show stpL M.length i M2 = _; rw [stpL_at a5, List.getElem?_map, ei]; rfl, ?_⟩
    have hc2 := a3.hc
    have e0 : ((wipeE env [6]).set 6 (some (stgD gs[i])))[0]? = some (some (.loc c)) := by
      rw [List.getElem?_set_ne (by omega)]
      show (env.set 6 none)[0]? = _
      rw [List.getElem?_set_ne (by omega)]; exact he
    have e6 : ((wipeE env [6]).set 6 (some (stgD gs[i])))[6]? = some (some (stgD gs[i])) := by
      rw [List.getElem?_set_self]
      show 6 < (env.set 6 none).length
      rw [List.length_set]; exact h6
    refine wq_meth' (wp_var e0 (k_ins hc2 rfl ?_))
    refine wp_cons (wp_var e6 (wp_nil (k_len rfl (k_pos ?_))))
    have hm := places_more ord (gs.take i)
    have ht : (gs.take i).length ≤ gs.length := by simp; omega
    refine (sp_placeOf a3 (by omega)).go ?_
    rintro _ M3 ⟨rfl, b1, b2⟩
    have na : ¬ OP o p M1.length := by have := k1.1; unfold OP; omega
    have nb : ¬ OP o p M.length := by unfold OP; omega
    have k3 : Kp (OP o p) M M3 := a6.tr b2
    have st : places ord (gs.take (i + 1)) = ((places ord (gs.take i)).1 ++ [(placeOf (places ord (gs.take i)).2 gs[i]).1], (placeOf (places ord (gs.take i)).2 gs[i]).2) := by
      rw [take_succ_of ei, places_app]; rfl
    have nc : ∀ n, At M1.length n → n ≠ c ∧ n ≠ o ∧ n ≠ p ∧ n ≠ r ∧ n ∉ ls := by
      intro n e
      have hk := k1.1
      have e' : n = M1.length := e
      refine ⟨by omega, by omega, by omega, by omega, fun hn => ?_⟩
      have := z.2 n hn
      omega
    refine ⟨acc, b2.at a4 na, size_lt (by rw [a2]; unfold intsN; rw [List.length_map, places_len]; omega), a0, by omega, ?_, ?_, at_set (b2.at a4 na), at_set_ne (b2.at a5 nb) (by omega), k3.trans (Kp.set (W := At M1.length) fun _ => rfl) ?_⟩
    · rw [st, a2]; unfold intsN; rw [List.map_append]; rfl
    · rw [st]; exact b1.kp (Kp.set (W := At M1.length) fun _ => rfl) nc
    · intro n hn e
      have hk := k1.1
      have e' : n = M1.length := e
      omega
  · rintro acc M2 ⟨a0, a1, a2, a3, a4, a5, a6⟩
    have e : gs.take (gs.map stgD).length = gs := by rw [List.length_map, List.take_length]
    refine ⟨by show stpL M.length (gs.map stgD).length M2 = _; rw [stpL_at a5, List.getElem?_eq_none (Nat.le_refl _)], hq _ M2 a0 ?_ ?_ a6⟩
    · have a2' : acc = intsN (places ord (gs.take (gs.map stgD).length)).1 := a2
      rw [e] at a2'
      rw [a4, a2']
    · have a3' : StAt c o p r (places ord (gs.take (gs.map stgD).length)).2 rows ls M2 := a3
      rw [e] at a3'
      exact a3'
end
end L55

/-! text D5_55 -/
namespace L55
open PySem L2 PySem.Spec PyProof.Rows Zl
theorem zip_len {rows : List SRow} {ls : List Nat} (h : ls.length = rows.length) : (List.zipWith srD rows ls).length = rows.length := by rw [List.length_zipWith]; omega
theorem stg_get {t : Tb} {f : Nat} {ord : List Stg} {rows : List SRow} {R : List Stg × List SRow} (h : stagesF t (f + 1) ord rows = some R) (hl : rows.length < ord.length) : ∃ s, ord[rows.length]? = some s ∧ s.1 < t.rows.length ∧ s.2.length ≤ 100 ∧ (∀ x ∈ s.2, x < t.l) ∧ ord.length ≤ 3000 ∧
    stagesF t f (places (placeOf ord (afterMiss t s).2).2 (afterHits t s)).2 (rows ++ [((afterMiss t s).1, (placeOf ord (afterMiss t s).2).1, (places (placeOf ord (afterMiss t s).2).2 (afterHits t s)).1)]) = some R := by
  have e : ord[rows.length]? = some ord[rows.length] := List.getElem?_eq_getElem hl
  unfold stagesF at h
  rw [e] at h
  simp only at h
  split at h
  · rename_i hc
    unfold stgOk at hc
    simp only [Bool.and_eq_true, decide_eq_true_eq, List.all_eq_true] at hc
    exact ⟨_, e, hc.1.1.1, hc.1.1.2, hc.1.2, hc.2, h⟩
  · cases h
theorem stg_end {t : Tb} {f : Nat} {ord : List Stg} {rows : List SRow} {R : List Stg × List SRow} (h : stagesF t f ord rows = some R) (hl : ¬ rows.length < ord.length) : R = (ord, rows) := by
  cases f with
  | zero => cases h
  | succ f =>
    unfold stagesF at h
    rw [List.getElem?_eq_none (by omega)] at h
    cases h; rfl
theorem sp_init {t : Tb} {c f : Nat} {M : Mem} {O : List Stg} {R : List SRow} (ht : OkT t) (hc : M[c]? = some (.ins 0 [])) (hf : f ≤ 5000) (hF : stagesF t f [(0, [])] [] = some (O, R)) :
    Wp (m_Stages_init [.loc c, tabD t] M) fun d M' => d = .non ∧ (∃ o p r ls, StAt c o p r O R ls M') ∧ Kp (At c) M M' := by
  have z := lt_of hc
  refine wp_fn rfl [some (.loc c), some (tabD t), none, none, none, none, none] rfl ?_
  unfold b_Stages_init
  array_get_dec
  rename_i o M1 e1 g1 k1 l1 M2 g2 k2 l2
  refine wq_dict1N ?_
  array_get_dec
  rename_i p M3 e3 g3 k3 l3
  refine ⟨_, g3, key_stg (0, []), ?_⟩
  array_get_dec
  rename_i M4 g4 k4 l4 M5 g5 k5 l5 r M6 e6 g6 k6 l6 M7 g7 k7 l7
  have o7 := k7.at (k6.at (k5.at (k4.at (k3.at (k2.at g1 (by omega)) id) (by omega)) (by omega)) id) (by omega)
  have p7 := k7.at (k6.at (k5.at g4 (by omega)) id) (by omega)
  have r7 := k7.at g6 (by omega)
  have st7 : StAt c o p r [(0, [])] [] [] M7 := ⟨g7, o7, p7, r7, fun i n w h => by simp at h, rfl, by omega, by omega, by omega, fun n h => by simp at h⟩
  have kk7 : Kp (At c) M M7 := by
    refine (((((((Kp.refl (W := At c)).trN k1).trans k2 fun n _ e => e).trN k3).trans k4 ?_).trans k5 fun n _ e => e).trN k6).trans k7 fun n _ e => e
    intro n hn e
    have e' : n = p := e
    omega
  refine wp_whileI (fun m env M' => ∃ (x2 x3 x4 x5 x6 : Option Dv) (ord : List Stg) (rows : List SRow) (ls : List Nat), env = [some (.loc c), some (tabD t), x2, x3, x4, x5, x6] ∧ StAt c o p r ord rows ls M' ∧ stagesF t m ord rows = some (O, R) ∧ Kp (At c) M M') ?_ 1000000 f _ M7 (by omega) ⟨none, none, none, none, none, _, _, _, rfl, st7, hF, kk7⟩
  rintro m env M8 ⟨x2, x3, x4, x5, x6, ord, rows, ls, rfl, st, hm, kk⟩
  have hc8 := st.hc
  have ho8 := st.ho
  have hr8 := st.hr
  have hM8 := kk.1
  have hzl := zip_len st.hn
  array_get_dec
  by_cases hl : rows.length < ord.length
  · rw [decide_eq_true (by rw [hzl, List.length_map]; exact_mod_cast hl)]
    refine (show Wp _ _ from ?_)
    cases m with
    | zero => cases hm
    | succ m =>
      obtain ⟨s, es, s1, s2, s3, s4, hm'⟩ := stg_get hm hl
      have es' : (ord.map stgD)[(List.zipWith srD rows ls).length]? = some (stgD s) := by rw [hzl, List.getElem?_map, es]; rfl
      array_get_dec
      refine (sp_afterMiss s1 s2).go ?_
      rintro _ _ ⟨rfl, rfl⟩
      array_get_dec
      refine (sp_placeOf st (by omega)).go ?_
      rintro _ M9 ⟨rfl, st9, k9⟩
      have hc9 := st9.hc
      have hr9 := st9.hr
      have hpl := place_len ord (afterMiss t s).2
      array_get_dec
      refine lc_place (ord := (placeOf ord (afterMiss t s).2).2) (gs := afterHits t s) rfl (by show 6 < 7; decide) st9 (by unfold afterHits; rw [List.length_map]; omega) ?_ ?_
      · array_get_dec
        exact sp_afterHits ht s1 s2 s3
      · intro n MA hn gA stA kA
        have hcA := stA.hc
        have hrA := stA.hr
        array_get_dec
        refine wq_append hrA (size_lt (by rw [hzl]; omega)) ?_
        array_get_dec
        rename_i MB gB kB lB
        have lA := stA.lt
        have h9 := st9.lt
        have hco := st.co
        have hop := st.op
        have hpr := st.pr
        refine ⟨m, by omega, _, _, _, _, _, _, _, ls ++ [n], rfl, ?_, hm', ?_⟩
        · refine ⟨kB.at stA.hc (by omega), kB.at stA.ho (by omega), kB.at stA.hp (by omega), ?_, ?_, ?_, stA.co, stA.op, stA.pr, ?_⟩
          · rw [gB, List.zipWith_append st.hn.symm]; rfl
          · intro i n' w a b
            by_cases hi : i < rows.length
            · rw [List.getElem?_append_left (by rw [st.hn]; exact hi)] at a
              rw [List.getElem?_append_left hi] at b
              refine kB.at (stA.hl i n' w a b) ?_
              have := stA.rl n' (List.mem_of_getElem? a)
              omega
            · have hi2 : i = rows.length := by
                have := (List.getElem?_eq_some_iff.mp b).1
                simp at this; omega
              subst hi2
              have hne : ls.length = rows.length := st.hn
              rw [List.getElem?_append_right (by omega), hne] at a
              rw [List.getElem?_append_right (Nat.le_refl _)] at b
              simp at a b
              subst a b
              exact kB.at gA (by omega)
          · simp [st.hn]
          · intro n' hn'
            rcases List.mem_append.mp hn' with h | h
            · exact stA.rl n' h
            · have : n' = n := by simpa using h
              omega
        · refine ((kk.trans k9 ?_).trans kA ?_).trans kB ?_
          · intro n hn e; unfold OP at e; omega
          · intro n hn e; unfold OP at e; omega
          · intro n hn e
            have e' : n = r := e
            omega
  · rw [decide_eq_false (by rw [hzl, List.length_map]; intro h; exact hl (by exact_mod_cast h))]
    have e := stg_end hm hl
    cases e
    exact ⟨rfl, ⟨o, p, r, ls, st⟩, kk⟩
end L55

/-! text D6_55 -/
namespace L55
open PySem L2 PySem.Spec PyProof.Rows Zl
/-! ## numbers for keys -/
section
variable {α : Type} [DecidableEq α] {κ : α → NestedKey} {δ : α → Dv}
def KnAt (κ : α → NestedKey) (δ : α → Dv) (k : Nat) (kn : List α) (M : Mem) : Prop := (kn = [] ∧ M[k]? = some (.dct [])) ∨ M[k]? = some (.dcn (enN κ δ kn))
theorem put_nil (x : α) : putN [] (κ x) (δ x) (.int ((0 : Nat) : Int)) = enN κ δ [x] := rfl
theorem sp_numbered (hk : ∀ a, keyN (δ a) = some (κ a)) (inj : ∀ a b, κ a = κ b → a = b) {n : Nat} {xs : List α} {M : Mem} (hm : M[n]? = some (.lst (xs.map δ))) (hl : xs.length ≤ 50000) :
    Wp (m_numbered [.loc n] M) fun d M' => ∃ k, d = .loc k ∧ M.length ≤ k ∧ M'[k]? = some (.lst (intsN (places [] xs).1)) ∧ Kp NoW M M' := by
  have z := lt_of hm
  refine wp_fn rfl [some (.loc n), none, none, none] rfl ?_
  unfold b_numbered
  array_get_dec
  rename_i a M1 e1 g1 k1 l1 b M2 e2 g2 k2 l2
  refine wq_for (fun i env M' => ∃ x3 : Option Dv, env = [some (.loc n), some (.loc a), some (.loc b), x3] ∧ M'[n]? = some (.lst (xs.map δ)) ∧ KnAt κ δ a (places [] (xs.take i)).2 M' ∧ M'[b]? = some (.lst (intsN (places [] (xs.take i)).1)) ∧ Kp NoW M M') ?_
  have hm2 := k2.at (k1.at hm id) id
  array_get_dec
  refine k_forL (fun i env M' hh => by obtain ⟨_, _, h, _⟩ := hh; exact h) ⟨none, rfl, hm2, .inl ⟨rfl, k2.at g1 id⟩, g2, k1.tr k2⟩ ?_ ?_
  · rintro i d env M3 hd ⟨x3, rfl, c1, c2, c3, c4⟩
    have hi : i < xs.length := by have := (List.getElem?_eq_some_iff.mp hd).1; simpa using this
    have ei : xs[i]? = some xs[i] := List.getElem?_eq_getElem hi
    have ed : d = δ xs[i] := by rw [List.getElem?_map, ei] at hd; cases hd; rfl
    subst ed
    have hmore := places_more [] (xs.take i)
    have hlen := places_len [] (xs.take i)
    have ht : (xs.take i).length ≤ 50000 := by simp; omega
    have st : places [] (xs.take (i + 1)) = ((places [] (xs.take i)).1 ++ [(placeOf (places [] (xs.take i)).2 xs[i]).1], (placeOf (places [] (xs.take i)).2 xs[i]).2) := by
      rw [take_succ_of ei, places_app]; rfl
    rw [st]
    generalize hkn : (places [] (xs.take i)).2 = kn at *
    generalize hfd : (places [] (xs.take i)).1 = fd at *
    have hM3 := c4.1
    array_get_dec
    have kx := hk xs[i]
    -- behind the test: the key is known
    have fin : ∀ M4 : Mem, M4[n]? = some (.lst (xs.map δ)) → M4[a]? = some (.dcn (enN κ δ (placeOf kn xs[i]).2)) → M4[b]? = some (.lst (intsN fd)) → Kp NoW M M4 → ∀ {Q : QE}, (∀ M5, M5[n]? = some (.lst (xs.map δ)) → M5[a]? = some (.dcn (enN κ δ (placeOf kn xs[i]).2)) → M5[b]? = some (.lst (intsN (fd ++ [(placeOf kn xs[i]).1]))) → Kp NoW M M5 → Q .non M5) →
        ∀ E : En, Wp (ixE (.loc a) (δ xs[i]) M4) fun d M1 => Wp (fNil E M1) fun ds M2 => Wp (appendD (.loc b) (d :: ds) M2) Q := by
      intro M4 h1 h2 h3 h4 Q hq E
      have hv := val_enN (δ := δ) inj xs[i] (placeOf kn xs[i]).2
      have hin : xs[i] ∈ (placeOf kn xs[i]).2 := by unfold placeOf; split <;> simp [*]
      have hix : ixOf xs[i] (placeOf kn xs[i]).2 = (placeOf kn xs[i]).1 := by
        unfold placeOf
        split
        · rfl
        · rename_i h; exact ix_new h
      rw [if_pos hin, hix] at hv
      refine wp_ixN h2 kx hv ?_
      array_get_dec
      refine wq_append h3 (size_lt (by unfold intsN; rw [List.length_map]; omega)) ?_
      array_get_dec
      rename_i M5 g5 k5 l5
      have h4l := h4.1
      refine hq M5 (k5.at h1 (by omega)) (k5.at h2 (by omega)) (by rw [g5]; unfold intsN; rw [List.map_append]; rfl) (h4.trans k5 fun m hm e => ?_)
      have e' : m = b := e
      omega
    rcases c2 with ⟨hz, c2⟩ | c2
    · subst hz
      refine wp_in0 c2 kx ?_
      array_get_dec
      refine ki_of (c := true) rfl ?_
      array_get_dec
      refine wp_lenK c2 ?_
      array_get_dec
      refine k_set0 c2 kx ?_
      array_get_dec
      rename_i M4 g4 k4 l4
      have ep : placeOf [] xs[i] = (0, [xs[i]]) := rfl
      refine fin M4 (k4.at c1 (by omega)) g4 (k4.at c3 (by omega)) (c4.trans k4 fun m hm e => ?_) ?_ _
      · have e' : m = a := e
        omega
      · intro M5 f1 f2 f3 f4
        array_get_dec
        exact ⟨_, rfl, f1, .inr f2, f3, f4⟩
    · refine wp_inN c2 kx ?_
      have hv := val_enN (δ := δ) inj xs[i] kn
      array_get_dec
      by_cases hin : xs[i] ∈ kn
      · rw [if_pos hin] at hv
        refine ki_of (c := false) (by rw [hv]; rfl) ?_
        array_get_dec
        have ep : (placeOf kn xs[i]).2 = kn := by unfold placeOf; rw [if_pos hin]
        refine fin M3 c1 (by rw [ep]; exact c2) c3 c4 ?_ _
        intro M5 f1 f2 f3 f4
        array_get_dec
        exact ⟨_, rfl, f1, .inr f2, f3, f4⟩
      · rw [if_neg hin] at hv
        refine ki_of (c := true) (by rw [hv]; rfl) ?_
        array_get_dec
        refine wp_lenN c2 ?_
        array_get_dec
        refine k_setDn c2 kx (by rw [en_len]; simp at hmore; omega) ?_
        array_get_dec
        rename_i M4 g4 k4 l4
        have ep : (placeOf kn xs[i]).2 = kn ++ [xs[i]] := by unfold placeOf; rw [if_neg hin]
        rw [en_len, put_enN inj hin] at g4
        refine fin M4 (k4.at c1 (by omega)) (by rw [ep]; exact g4) (k4.at c3 (by omega)) (c4.trans k4 fun m hm e => ?_) ?_ _
        · have e' : m = a := e
          omega
        · intro M5 f1 f2 f3 f4
          array_get_dec
          exact ⟨_, rfl, f1, .inr f2, f3, f4⟩
  · rintro env M3 ⟨x3, rfl, c1, c2, c3, c4⟩
    array_get_dec
    rw [List.length_map, List.take_length] at c3
    exact ⟨b, rfl, by have := k1.1; omega, c3, c4⟩
end
end L55

/-! text D7_55 -/
namespace L55
open PySem L2 PySem.Spec PyProof.Rows Zl
/-! ## classes -/
def d2 (a : Nat × Nat) : Dv := .tup [.int (a.1 : Nat), .int (a.2 : Nat)]
def k2 (a : Nat × Nat) : NestedKey := .tup [.num (a.1 : Nat), .num (a.2 : Nat)]
theorem key_2 (a : Nat × Nat) : keyN (d2 a) = some (k2 a) := rfl
theorem k2_inj (a b : Nat × Nat) (h : k2 a = k2 b) : a = b := by
  unfold k2 at h
  simp only [NestedKey.tup.injEq, List.cons.injEq, and_true] at h
  exact Prod.ext (num_inj _ _ h.1) (num_inj _ _ h.2)
def d3 (a : SRow) : Dv := .tup [.int (a.1 : Nat), .int (a.2.1 : Nat), .tup (intsN a.2.2)]
def k3 (a : SRow) : NestedKey := .tup [.num (a.1 : Nat), .num (a.2.1 : Nat), .tup (a.2.2.map fun n => .num (n : Nat))]
theorem key_3 (a : SRow) : keyN (d3 a) = some (k3 a) := by
  show (match nkL (nkN 7) [.int (a.1 : Nat), .int (a.2.1 : Nat), .tup (intsN a.2.2)] with | some ks => some (NestedKey.tup ks) | none => none) = _
  have h2 : nkN 7 (.tup (intsN a.2.2)) = some (.tup (a.2.2.map fun n => .num (n : Nat))) := by
    show (match nkL (nkN 6) (intsN a.2.2) with | some ks => some (NestedKey.tup ks) | none => none) = _
    rw [nk_ints]
  unfold nkL nkL nkL
  simp only [h2]
  rfl
theorem k3_inj (a b : SRow) (h : k3 a = k3 b) : a = b := by
  unfold k3 at h
  simp only [NestedKey.tup.injEq, List.cons.injEq, and_true] at h
  exact Prod.ext (num_inj _ _ h.1) (Prod.ext (num_inj _ _ h.2.1) (map_inj num_inj h.2.2))
def keys1 (O : List Stg) (R : List SRow) : List (Nat × Nat) := List.zipWith (fun s w => (s.2.length, w.1)) O R
def keyOf (fd : List Nat) (own : Nat) (w : SRow) : SRow := (own, fd.getD w.2.1 0, w.2.2.map fun g => fd.getD g 0)
def keys2 (fd : List Nat) (R : List SRow) : List SRow := List.zipWith (keyOf fd) fd R
def cnt (fd : List Nat) : Nat := (dedupI (fd.map Int.ofNat)).length
def classF (R : List SRow) : Nat → Nat → List Nat → Option (List Nat)
  | 0, _, _ => none
  | f + 1, cn, fd => if cn < cnt fd then classF R f (cnt fd) (places [] (keys2 fd R)).1 else some fd
structure OkR2 (R : List SRow) : Prop where
  few : R.length ≤ 3000
  after : ∀ w ∈ R, w.2.1 < R.length
  hits : ∀ w ∈ R, w.2.2.length ≤ 100 ∧ ∀ g ∈ w.2.2, g < R.length
theorem class_len {R : List SRow} : ∀ {f cn : Nat} {fd cls : List Nat}, classF R f cn fd = some cls → fd.length = R.length → cls.length = R.length
  | 0, _, _, _, h, _ => by cases h
  | f + 1, cn, fd, cls, h, e => by
    unfold classF at h
    split at h
    · refine class_len h ?_
      rw [places_len]; unfold keys2; rw [List.length_zipWith]; omega
    · cases h; exact e
theorem zip_at2 {R : List SRow} {ls : List Nat} {i : Nat} {e : Dv} (h : (List.zipWith srD R ls)[i]? = some e) : ∃ w n, R[i]? = some w ∧ ls[i]? = some n ∧ e = srD w n := by
  rw [List.getElem?_zipWith] at h
  cases hr : R[i]? with
  | none => rw [hr] at h; cases h
  | some w =>
    cases hl : ls[i]? with
    | none => rw [hr, hl] at h; cases h
    | some n => rw [hr, hl] at h; cases h; exact ⟨w, n, rfl, rfl, rfl⟩
section
variable {c o p r : Nat} {O : List Stg} {R : List SRow} {ls : List Nat} {M M' : Mem}
theorem lc_keys1 {env : En} {q : QE} (he : env = [some (.loc c), none, none, none, none, none, none, none]) (h : StAt c o p r O R ls M) (hO : O.length = R.length) (hR : R.length ≤ 3000)
    (hq : ∀ n M', n = M.length → M'[n]? = some (.lst ((keys1 O R).map d2)) → Kp NoW M M' → q (.loc n) M') :
    Wp (fComp (fZip (fFld 0 "order" (fV 0)) (fFld 0 "rows" (fV 0))) [6, 5] (gOr (gT 2 (gsCons (gN 6) (gsCons (gN 5) gsNil))) (gL 2 (gsCons (gN 6) (gsCons (gN 5) gsNil)))) fYes (fTup (fCons (fC lenE (fCons (fO ixE (fV 6) (fK (.int 1))) fNil)) (fCons (fO ixE (fV 5) (fK (.int 0))) fNil))) env M) q := by
  subst he
  have hc := h.hc
  have ho := h.ho
  have hr := h.hr
  have hz := zip_len h.hn
  refine wq_lcG (fun _ => true) (fun i => match (keys1 O R)[i]? with | some a => d2 a | none => .non) ?_
  array_get_dec
  refine k_zipL ho hr ⟨by show min (O.map stgD).length (List.zipWith srD R ls).length ≤ _; rw [hz]; omega, ?_, ?_, ?_⟩
  · intro i M1 k1 hi
    have hi' : i < R.length := by have : i < min (O.map stgD).length (List.zipWith srD R ls).length := hi; omega
    have eO : O[i]? = some O[i] := List.getElem?_eq_getElem (by omega)
    have eR : R[i]? = some R[i] := List.getElem?_eq_getElem hi'
    have eL : ls[i]? = some (ls[i]'(by have := h.hn; omega)) := List.getElem?_eq_getElem _
    refine ⟨.pr [.tup [.int (O[i].1 : Nat), .tup (intsN O[i].2)], .tup [.int (R[i].1 : Nat), .int (R[i].2.1 : Nat), .loc (ls[i]'(by have := h.hn; omega))]], (stpZL_at (k1.at ho id) (k1.at hr id)).trans (congrArg some (zip_at (by rw [List.getElem?_map, eO]; rfl) (by rw [List.getElem?_zipWith, eR, eL]; rfl))), ?_⟩
    array_get_dec
    refine wp_ev (a := true) (M' := M1) rfl ⟨rfl, .refl, fun _ => ?_⟩
    array_get_dec
    refine ⟨?_, .refl⟩
    have e : (keys1 O R)[i]? = some (O[i].2.length, R[i].1) := by unfold keys1; rw [List.getElem?_zipWith, eO, eR]
    rw [e]
    simp [d2, intsN]
  · intro M1 k1
    exact (stpZL_at (k1.at ho id) (k1.at hr id)).trans (congrArg some zip_end)
  · intro n M1 e1 l1 k1 g1
    refine hq n M1 e1 ?_ k1
    rw [g1]
    congr 2
    have hm : min (O.map stgD).length (List.zipWith srD R ls).length = R.length := by rw [hz, List.length_map]; omega
    show ((List.range (min (O.map stgD).length (List.zipWith srD R ls).length)).filter fun _ => true).map _ = _
    rw [hm]
    refine List.ext_getElem? fun i => ?_
    rw [List.filter_eq_self.mpr fun _ _ => rfl, List.getElem?_map, List.getElem?_map]
    have hk : (keys1 O R).length = R.length := by unfold keys1; rw [List.length_zipWith]; omega
    by_cases hi : i < R.length
    · rw [List.getElem?_range hi, List.getElem?_eq_getElem (by omega)]
      show some (match (keys1 O R)[i]? with | some a => d2 a | none => .non) = _
      rw [List.getElem?_eq_getElem (by omega)]; rfl
    · rw [List.getElem?_eq_none (by simp; omega), List.getElem?_eq_none (by omega)]; rfl
end
end L55

/-! text D8_55 -/
namespace L55
open PySem L2 PySem.Spec PyProof.Rows Zl
section
variable {c o p r : Nat} {O : List Stg} {R : List SRow} {ls : List Nat} {M M' : Mem}
theorem getD_at {fd : List Nat} {i : Nat} (h : i < fd.length) : fd[i]? = some (fd.getD i 0) := by
  rw [List.getD_eq_getElem?_getD, List.getElem?_eq_getElem h]; rfl
theorem sp_classes {f : Nat} {cls : List Nat} (h : StAt c o p r O R ls M) (hO : O.length = R.length) (ok : OkR2 R) (hf : f ≤ 5000) (hC : classF R f 0 (places [] (keys1 O R)).1 = some cls) :
    Wp (m_classes_of [.loc c] M) fun d M' => ∃ k, d = .loc k ∧ M.length ≤ k ∧ M'[k]? = some (.lst (intsN cls)) ∧ Kp NoW M M' := by
  have hR := ok.few
  have hk1 : (keys1 O R).length = R.length := by unfold keys1; rw [List.length_zipWith]; omega
  refine wp_fn rfl [some (.loc c), none, none, none, none, none, none, none] rfl ?_
  unfold b_classes_of
  array_get_dec
  refine lc_keys1 rfl h hO hR fun n M1 e1 g1 q1 => ?_
  array_get_dec
  refine (sp_numbered key_2 k2_inj g1 (by omega)).go ?_
  rintro _ M2 ⟨k, rfl, hk, g2, q2⟩
  array_get_dec
  have hM1 := q1.1
  refine wp_whileI (fun m env M' => ∃ (x3 x4 x5 : Option Dv) (cn : Nat) (fd : List Nat) (k : Nat), env = [some (.loc c), some (.loc k), some (.int (cn : Nat)), x3, x4, x5, none, none] ∧ M.length ≤ k ∧ M'[k]? = some (.lst (intsN fd)) ∧ fd.length = R.length ∧ classF R m cn fd = some cls ∧ Kp NoW M M') ?_ 1000000 f _ M2 (by omega) ⟨none, none, none, 0, _, k, rfl, by omega, g2, by rw [places_len, hk1], hC, q1.tr q2⟩
  rintro m env M3 ⟨x3, x4, x5, cn, fd, k, rfl, hk, g3, hfd, hm, q3⟩
  have hM3 := q3.1
  have hk3 := lt_of g3
  array_get_dec
  refine wq_set g3 (by omega) ?_
  array_get_dec
  rename_i s1 M4 e4 g4 q4 l4
  refine wp_lenS g4 ?_
  array_get_dec
  have hM4 := q4.1
  cases m with
  | zero => cases hm
  | succ m =>
    unfold classF at hm
    by_cases hlt : cn < cnt fd
    · rw [if_pos hlt] at hm
      rw [decide_eq_true (show ((cn : Nat) : Int) < ((dedupI (fd.map Int.ofNat)).length : Nat) by exact_mod_cast hlt)]
      refine (show Wp _ _ from ?_)
      have g34 := q4.at g3 id
      array_get_dec
      refine wq_set g34 (by omega) ?_
      array_get_dec
      rename_i s2 M5 e5 g5 q5 l5
      refine wp_lenS g5 ?_
      array_get_dec
      rename_i ks M6 e6 g6 q6 l6
      have st6 := ((((h.kpN q3).kpN q4).kpN q5).kpN q6)
      have hc6 := st6.hc
      have hr6 := st6.hr
      have g36 := q6.at (q5.at g34 id) id
      have kk6 : Kp NoW M M6 := ((q3.tr q4).tr q5).tr q6
      have hM5 := q5.1
      have z := h.lt
      refine wq_for (fun i env M' => ∃ (x4 x5 : Option Dv), env = [some (.loc c), some (.loc k), some (.int (cnt fd : Nat)), some (.loc ks), x4, x5, none, none] ∧ M'[k]? = some (.lst (intsN fd)) ∧ M'[r]? = some (.lst (List.zipWith srD R ls)) ∧ M'[ks]? = some (.lst (((keys2 fd R).take i).map d3)) ∧ Kp NoW M M') ?_
      array_get_dec
      refine k_zipL g36 hr6 ?_
      refine k_forZL (by rw [zip_len h.hn]; unfold intsN; rw [List.length_map]; omega) (fun i env M' hh => by obtain ⟨_, _, _, a, b, _⟩ := hh; exact ⟨a, b⟩) ⟨x4, x5, rfl, g36, hr6, g6, kk6⟩ ?_ ?_
      · rintro i d e env M7 hd he ⟨x4, x5, rfl, a1, a2, a3, a4⟩
        obtain ⟨w, n, ew, en, rfl⟩ := zip_at2 he
        have hi : i < fd.length := by have := (List.getElem?_eq_some_iff.mp hd).1; unfold intsN at this; simpa using this
        have ed : d = .int ((fd[i] : Nat) : Int) := by
          unfold intsN at hd
          rw [List.getElem?_map, List.getElem?_eq_getElem hi] at hd
          cases hd; rfl
        subst ed
        have hw := List.mem_of_getElem? ew
        have hit : M7[n]? = some (.lst (intsN w.2.2)) := a4.at (h.hl i n w en ew) id
        have ea : (intsN fd)[w.2.1]? = some (.int ((fd.getD w.2.1 0 : Nat) : Int)) := ints_at (getD_at (by have := ok.after w hw; omega))
        have hh := ok.hits w hw
        have hM7 := a4.1
        unfold srD
        array_get_dec
        refine wq_map (fun x => match x with | .int j => .int ((fd.getD j.toNat 0 : Nat) : Int) | _ => .non) ?_
        array_get_dec
        refine k_mapL hit (size_le (by unfold intsN; rw [List.length_map]; omega)) ?_ ?_
        · intro y hy M8 q8
          obtain ⟨g, hg, rfl⟩ := List.mem_map.mp hy
          have eg : (intsN fd)[g]? = some (.int ((fd.getD g 0 : Nat) : Int)) := ints_at (getD_at (by have := hh.2 g hg; omega))
          have a18 := q8.at a1 id
          array_get_dec
          exact ⟨rfl, .refl⟩
        · intro n8 M8 e8 l8 q8 g8
          have a38 := q8.at a3 id
          array_get_dec
          refine wq_append a38 (size_lt (by rw [List.length_map, List.length_take]; unfold keys2; rw [List.length_zipWith]; omega)) ?_
          array_get_dec
          rename_i M9 g9 q9 l9
          have hM8 := q8.1
          refine ⟨_, _, rfl, q9.at (q8.at a1 id) (by omega), q9.at (q8.at a2 id) (by omega), ?_, (a4.tr q8).trans q9 ?_⟩
          · rw [g9]
            have e : (keys2 fd R)[i]? = some (keyOf fd fd[i] w) := by unfold keys2; rw [List.getElem?_zipWith, List.getElem?_eq_getElem hi, ew]
            rw [take_succ_of e, List.map_append]
            congr 3
            show _ = [d3 (keyOf fd fd[i] w)]
            unfold d3 keyOf
            simp only
            congr 3
            unfold intsN
            rw [List.map_map, List.map_map]
            rfl
          · intro n hn e
            have e' : n = ks := e
            omega
      · rintro env M7 ⟨x4, x5, rfl, a1, a2, a3, a4⟩
        have e : (keys2 fd R).take (intsN fd).length = keys2 fd R := List.take_of_length_le (by unfold keys2 intsN; rw [List.length_zipWith, List.length_map]; omega)
        rw [e] at a3
        array_get_dec
        refine (sp_numbered key_3 k3_inj a3 (by unfold keys2; rw [List.length_zipWith]; omega)).go ?_
        rintro _ M8 ⟨k', rfl, hk', g8, q8⟩
        have hM7 := a4.1
        array_get_dec
        exact ⟨m, by omega, _, _, _, cnt fd, _, k', rfl, by omega, g8, by rw [places_len]; unfold keys2; rw [List.length_zipWith]; omega, hm, a4.tr q8⟩
    · rw [if_neg hlt] at hm
      rw [decide_eq_false (show ¬ ((cn : Nat) : Int) < ((dedupI (fd.map Int.ofNat)).length : Nat) by intro h'; exact hlt (by exact_mod_cast h'))]
      refine (show (kSeq _ _ _ _ : Prop) from ?_)
      array_get_dec
      cases hm
      exact ⟨k, rfl, hk, q4.at g3 id, q3.tr q4⟩
end
end L55

/-! text D9_55 -/
namespace L55
open PySem L2 PySem.Spec PyProof.Rows Zl
/-! ## the first stage of each class -/
def enK (ks : List Nat) : List (Key × Dv) := ks.zipIdx.map fun p => (.inl (p.1 : Nat), .int (p.2 : Nat))
theorem valK_cons {kv : Key × Dv} {kvs : List (Key × Dv)} {k : Key} : valD (kv :: kvs) k = if kv.1 = k then some kv.2 else valD kvs k := by
  unfold valD
  rw [List.find?_cons]
  by_cases h : kv.1 = k
  · rw [if_pos h]; simp [h]
  · rw [if_neg h]; simp [h]
theorem inl_inj {a b : Nat} (h : (Sum.inl (a : Int) : Key) = .inl (b : Int)) : a = b := by
  have := Sum.inl.inj h
  exact Int.ofNat_inj.mp this
theorem val_enK0 (x : Nat) : ∀ (xs : List Nat) (o : Nat), valD ((xs.zipIdx o).map fun p => ((.inl (p.1 : Nat) : Key), Dv.int (p.2 : Nat))) (.inl (x : Nat)) = if x ∈ xs then some (.int ((o + ixOf x xs : Nat) : Int)) else none
  | [], o => rfl
  | y :: ys, o => by
    rw [List.zipIdx_cons, List.map_cons, valK_cons, val_enK0 x ys (o + 1)]
    by_cases h : y = x
    · subst h
      rw [if_pos rfl, if_pos (List.mem_cons_self ..)]
      simp [ixOf]
    · rw [if_neg fun e => h (inl_inj e)]
      have h' : ¬ x = y := fun e => h e.symm
      by_cases hm : x ∈ ys
      · rw [if_pos hm, if_pos (List.mem_cons_of_mem _ hm)]
        have hb : ixOf x (y :: ys) = ixOf x ys + 1 := by show (if y = x then 0 else _) = _; rw [if_neg h]
        rw [hb]
        congr 3
        omega
      · rw [if_neg hm, if_neg (by simp [h', hm])]
theorem val_enK (x : Nat) (xs : List Nat) : valD (enK xs) (.inl (x : Nat)) = if x ∈ xs then some (.int ((ixOf x xs : Nat) : Int)) else none := by
  have := val_enK0 x xs 0
  rw [Nat.zero_add] at this
  exact this
theorem put_enK {x : Nat} {xs : List Nat} (h : x ∉ xs) : putDk (enK xs) (.inl (x : Nat)) (.int (xs.length : Nat)) = enK (xs ++ [x]) := by
  have ha : (enK xs).any (fun kv => decide (kv.1 = .inl (x : Nat))) = false := by
    rw [List.any_eq_false]
    intro p hp
    unfold enK at hp
    obtain ⟨⟨y, i⟩, hy, rfl⟩ := List.mem_map.mp hp
    have hm : y ∈ xs := List.fst_mem_of_mem_zipIdx hy
    simp only [decide_eq_true_eq]
    intro e
    exact h (inl_inj e ▸ hm)
  unfold putDk
  rw [ha]
  show enK xs ++ _ = _
  unfold enK
  rw [List.zipIdx_append, List.map_append]
  simp
theorem enK_len {xs : List Nat} : (enK xs).length = xs.length := by simp [enK]
def cl (cls : List Nat) (i : Nat) : Nat := cls.getD i 0
def add1 (cls : List Nat) (o : List Nat) (g : Nat) : List Nat := if cl cls g ∈ o.map (cl cls) then o else o ++ [g]
def addG (cls : List Nat) (o gs : List Nat) : List Nat := gs.foldl (add1 cls) o
def firstsF (cls : List Nat) (R : List SRow) : Nat → Nat → List Nat → Option (List Nat)
  | 0, _, _ => none
  | f + 1, i, ord => match ord[i]? with
    | none => some ord
    | some s => match R[s]? with
      | none => none
      | some w => if ord.length ≤ 3000 then firstsF cls R f (i + 1) (addG cls ord (w.2.1 :: w.2.2)) else none
theorem add1_len {cls o : List Nat} {g : Nat} : (add1 cls o g).length ≤ o.length + 1 := by
  unfold add1
  split <;> simp
theorem addG_len {cls : List Nat} : ∀ {gs o : List Nat}, (addG cls o gs).length ≤ o.length + gs.length
  | [], _ => Nat.le_refl _
  | g :: gs, o => by
    have h1 := addG_len (cls := cls) (gs := gs) (o := add1 cls o g)
    have h2 := add1_len (cls := cls) (o := o) (g := g)
    show (addG cls (add1 cls o g) gs).length ≤ _
    rw [List.length_cons]; omega
theorem addG_succ {cls o gs : List Nat} {i g : Nat} (h : gs[i]? = some g) : addG cls o (gs.take (i + 1)) = add1 cls (addG cls o (gs.take i)) g := by
  rw [take_succ_of h]; unfold addG; rw [List.foldl_append]; rfl
theorem atI_0 {xs : List Dv} {x : Dv} (h : xs[0]? = some x) : atI xs 0 = some x := atI_n (j := 0) h
section
variable {c o p r : Nat} {O : List Stg} {R : List SRow} {ls : List Nat} {M M' : Mem}
theorem sp_firsts {f kc : Nat} {cls ord : List Nat} (h : StAt c o p r O R ls M) (ok : OkR2 R) (hcl : M[kc]? = some (.lst (intsN cls))) (hcR : cls.length = R.length) (hR1 : 1 ≤ R.length) (hf : f ≤ 5000) (hF : firstsF cls R f 0 [0] = some ord) :
    Wp (m_firsts_of [.loc c, .loc kc] M) fun d M' => ∃ a b, d = .tup [.loc a, .loc b] ∧ M'[a]? = some (.lst (intsN ord)) ∧ M'[b]? = some (.dct (enK (ord.map (cl cls)))) ∧ Kp NoW M M' := by
  have e0 : (intsN cls)[0]? = some (.int ((cl cls 0 : Nat) : Int)) := ints_at (getD_at (by omega))
  have z := lt_of hcl
  have hlt := h.lt
  refine wp_fn rfl [some (.loc c), some (.loc kc), none, none, none, none, none, none, none] rfl ?_
  unfold b_firsts_of
  array_get_dec
  rename_i a M1 e1 g1 q1 l1
  refine wq_dict1K ?_
  array_get_dec
  rename_i b M2 e2 g2 q2 l2
  refine wp_ixL (q2.at (q1.at hcl id) id) (atI_0 e0) ?_
  array_get_dec
  refine ⟨_, g2, rfl, ?_⟩
  array_get_dec
  rename_i M3 g3 q3 l3
  have hM1 := q1.1
  have hM2 := q2.1
  have k3' : Kp NoW M M3 := by
    refine (q1.tr q2).trans q3 ?_
    intro n hn e
    have e' : n = b := e
    omega
  refine wp_whileI (fun m env M' => ∃ (x5 x6 x7 x8 : Option Dv) (i : Nat) (od : List Nat), env = [some (.loc c), some (.loc kc), some (.loc a), some (.loc b), some (.int (i : Nat)), x5, x6, x7, x8] ∧ M'[a]? = some (.lst (intsN od)) ∧ M'[b]? = some (.dct (enK (od.map (cl cls)))) ∧ (∀ x ∈ od, x < R.length) ∧ firstsF cls R m i od = some ord ∧ Kp NoW M M') ?_ 1000000 f _ M3 (by omega) ⟨none, none, none, none, 0, [0], rfl, q3.at (q2.at g1 id) (by omega), g3, fun x hx => by simp at hx; omega, hF, k3'⟩
  rintro m env M4 ⟨x5, x6, x7, x8, i, od, rfl, g4, d4, ho, hm, kk⟩
  have hM4 := kk.1
  array_get_dec
  cases m with
  | zero => cases hm
  | succ m =>
    by_cases hi : i < od.length
    · rw [decide_eq_true (by unfold intsN; rw [List.length_map]; exact_mod_cast hi)]
      refine (show Wp _ _ from ?_)
      have eo : od[i]? = some od[i] := List.getElem?_eq_getElem hi
      have hs := ho od[i] (List.getElem_mem hi)
      have er : R[od[i]]? = some R[od[i]] := List.getElem?_eq_getElem hs
      have hw := List.mem_of_getElem? er
      unfold firstsF at hm
      rw [eo] at hm
      simp only at hm
      rw [er] at hm
      simp only at hm
      split at hm
      · rename_i h3
        generalize hR' : R[od[i]] = w at *
        obtain ⟨n, hn⟩ : ∃ n, ls[od[i]]? = some n := ⟨ls[od[i]]'(by have := h.hn; omega), List.getElem?_eq_getElem _⟩
        have st4 := h.kpN kk
        have hc4 := st4.hc
        have hr4 := st4.hr
        have hl4 := st4.hl _ _ _ hn er
        have eo' := ints_at eo
        have ez : (List.zipWith srD R ls)[od[i]]? = some (.tup [.int (w.1 : Nat), .int (w.2.1 : Nat), .loc n]) := by rw [List.getElem?_zipWith, er, hn]; rfl
        have hh := ok.hits w hw
        have ha := ok.after w hw
        array_get_dec
        refine wq_for (fun j env M' => ∃ (x8 : Option Dv), env = [some (.loc c), some (.loc kc), some (.loc a), some (.loc b), some (.int (i : Nat)), some (.int (w.1 : Nat)), some (.int (w.2.1 : Nat)), some (.loc n), x8] ∧ M'[a]? = some (.lst (intsN (addG cls od ((w.2.1 :: w.2.2).take j)))) ∧ M'[b]? = some (.dct (enK ((addG cls od ((w.2.1 :: w.2.2).take j)).map (cl cls)))) ∧ (∀ x ∈ addG cls od ((w.2.1 :: w.2.2).take j), x < R.length) ∧ M'[M4.length + 1]? = some (.lst (intsN (w.2.1 :: w.2.2))) ∧ Kp (fun x => x = a ∨ x = b) M4 M') ?_
        array_get_dec
        rename_i n5 M5 e5 g5 q5 l5
        refine wq_addL g5 (q5.at hl4 id) (by unfold intsN; rw [List.length_map]; show 1 + _ ≤ _; omega) ?_
        array_get_dec
        rename_i n6 M6 e6 g6 q6 l6
        have hg : ([Dv.int (w.2.1 : Nat)] ++ intsN w.2.2) = intsN (w.2.1 :: w.2.2) := rfl
        rw [hg] at g6
        have hM5 := q5.1
        have hM6 := q6.1
        have la := lt_of g4
        have lb := lt_of d4
        obtain rfl : n6 = M4.length + 1 := by omega
        array_get_dec
        refine k_forL (fun j env M' hh => by obtain ⟨_, _, _, _, _, hh, _⟩ := hh; exact hh) ⟨x8, rfl, q6.at (q5.at g4 id) id, q6.at (q5.at d4 id) id, ho, g6, ((Kp.refl (W := fun x => x = a ∨ x = b)).trN q5).trN q6⟩ ?_ ?_
        · rintro j d env M7 hd ⟨x8, rfl, a1, a2, a3, a4, a5⟩
          replace hd : (intsN (w.2.1 :: w.2.2))[j]? = some d := hd
          have hj : j < (w.2.1 :: w.2.2).length := by have := (List.getElem?_eq_some_iff.mp hd).1; unfold intsN at this; rw [List.length_map] at this; exact this
          have ej : (w.2.1 :: w.2.2)[j]? = some (w.2.1 :: w.2.2)[j] := List.getElem?_eq_getElem hj
          have hgR : (w.2.1 :: w.2.2)[j] < R.length := by
            rcases List.mem_cons.mp (List.getElem_mem hj) with e | e
            · rw [e]; exact ha
            · exact hh.2 _ e
          have ed : d = .int (((w.2.1 :: w.2.2)[j] : Nat) : Int) := by rw [ints_at ej] at hd; cases hd; rfl
          subst ed
          have hlen := addG_len (cls := cls) (o := od) (gs := (w.2.1 :: w.2.2).take j)
          have ht : ((w.2.1 :: w.2.2).take j).length ≤ 101 := by rw [List.length_take, List.length_cons]; omega
          have es := addG_succ (cls := cls) (o := od) ej
          rw [es]
          generalize addG cls od ((w.2.1 :: w.2.2).take j) = od' at *
          generalize (w.2.1 :: w.2.2)[j] = g at *
          have kM := kk.1
          have c7 : M7[kc]? = some (.lst (intsN cls)) := a5.at (kk.at hcl id) (by omega)
          have ec : (intsN cls)[g]? = some (.int ((cl cls g : Nat) : Int)) := ints_at (getD_at (by omega))
          have hv := val_enK (cl cls g) (od'.map (cl cls))
          array_get_dec
          refine wp_inK a2 (k := .inl ((cl cls g : Nat) : Int)) rfl ?_
          array_get_dec
          by_cases hin : cl cls g ∈ od'.map (cl cls)
          · rw [if_pos hin] at hv
            refine ki_of (c := false) (by rw [hv]; rfl) ?_
            array_get_dec
            have e : add1 cls od' g = od' := by unfold add1; rw [if_pos hin]
            rw [e]
            exact ⟨_, rfl, a1, a2, a3, a4, a5⟩
          · rw [if_neg hin] at hv
            refine ki_of (c := true) (by rw [hv]; rfl) ?_
            array_get_dec
            refine k_setDk a2 (k := .inl ((cl cls g : Nat) : Int)) rfl (size_lt (by rw [enK_len, List.length_map]; omega)) ?_
            array_get_dec
            rename_i M8 g8 q8 l8
            refine wq_append (q8.at a1 (by omega)) (size_lt (by unfold intsN; rw [List.length_map]; omega)) ?_
            array_get_dec
            rename_i M9 g9 q9 l9
            have e : add1 cls od' g = od' ++ [g] := by unfold add1; rw [if_neg hin]
            rw [e]
            have el : (intsN od').length = (od'.map (cl cls)).length := by unfold intsN; rw [List.length_map, List.length_map]
            refine ⟨_, rfl, by rw [g9]; unfold intsN; rw [List.map_append]; rfl, ?_, ?_, q9.at (q8.at a4 (by omega)) (by omega), (a5.trans q8 fun n _ e => .inr e).trans q9 fun n _ e => .inl e⟩
            · rw [q9.at g8 (by omega), el, put_enK hin, List.map_append]; rfl
            · intro x hx
              rcases List.mem_append.mp hx with hx | hx
              · exact a3 x hx
              · have : x = g := by simpa using hx
                omega
        · rintro env M7 ⟨x8, rfl, a1, a2, a3, a4, a5⟩
          have et : (w.2.1 :: w.2.2).take (intsN (w.2.1 :: w.2.2)).length = w.2.1 :: w.2.2 := List.take_of_length_le (by unfold intsN; rw [List.length_map]; exact Nat.le_refl _)
          replace a1 : M7[a]? = some (.lst (intsN (addG cls od ((w.2.1 :: w.2.2).take (intsN (w.2.1 :: w.2.2)).length)))) := a1
          replace a2 : M7[b]? = some (.dct (enK ((addG cls od ((w.2.1 :: w.2.2).take (intsN (w.2.1 :: w.2.2)).length)).map (cl cls)))) := a2
          replace a3 : ∀ x ∈ addG cls od ((w.2.1 :: w.2.2).take (intsN (w.2.1 :: w.2.2)).length), x < R.length := a3
          rw [et] at a1 a2 a3
          array_get_dec
          refine ⟨m, by omega, _, _, _, _, i + 1, _, rfl, a1, a2, a3, hm, kk.trans a5 ?_⟩
          intro n hn e
          omega
      · cases hm
    · rw [decide_eq_false (by unfold intsN; rw [List.length_map]; intro h'; exact hi (by exact_mod_cast h'))]
      refine (show (kSeq _ _ _ _ : Prop) from ?_)
      unfold firstsF at hm
      rw [List.getElem?_eq_none (by omega)] at hm
      cases hm
      array_get_dec
      exact ⟨a, b, rfl, g4, d4, kk⟩
end
end L55

/-! text D10_55 -/
namespace L55
open PySem L2 PySem.Spec PyProof.Rows Zl
/-! ## rules: enumerate a list, max -/
theorem ints_n : ∀ xs : List Nat, intsD (intsN xs) = some (xs.map fun n => ((n : Nat) : Int))
  | [] => rfl
  | x :: xs => by
    show (match intsD (intsN xs) with | some ns => some (((x : Nat) : Int) :: ns) | none => none) = _
    rw [ints_n xs]; rfl
theorem maxI_n : ∀ (xs : List Nat) (m : Nat), maxI (m : Nat) (xs.map fun n => ((n : Nat) : Int)) = ((xs.foldl max m : Nat) : Int)
  | [], _ => rfl
  | x :: xs, m => by
    show maxI (if ((x : Nat) : Int) > (m : Nat) then ((x : Nat) : Int) else (m : Nat)) (xs.map fun n => ((n : Nat) : Int)) = ((xs.foldl max (max m x) : Nat) : Int)
    rw [← maxI_n xs (max m x)]
    congr 1
    split <;> omega
theorem wq_maxN {n : Nat} {xs : List Nat} {M : Mem} {q : QE} (hm : M[n]? = some (.lst (intsN xs))) (h0 : xs ≠ []) (k : q (.int (xs.foldl max 0 : Nat)) M) : Wp (maxD [.loc n] M) q := by
  refine wp_ev ?_ k
  unfold maxD
  simp only [hm]
  cases xs with
  | nil => exact absurd rfl h0
  | cons x xs =>
    rw [ints_n]
    simp only [List.map_cons]
    rw [maxI_n]
    show some (Dv.int ((List.foldl max x xs : Nat) : Int), M) = some (Dv.int ((List.foldl max (max 0 x) xs : Nat) : Int), M)
    rw [Nat.zero_max]
/-! ## the plain form -/
def numOf (cls ord : List Nat) (g : Nat) : Nat := ixOf (cl cls g) (ord.map (cl cls))
def linesOf (O : List Stg) : Nat := (O.map fun s => s.2.length).foldl max 0
def pRow (cls ord : List Nat) (R : List SRow) (l : Nat) (ix number : Nat) : Row :=
  ⟨(R.getD ix (0, 0, [])).1, numOf cls ord (R.getD ix (0, 0, [])).2.1, (R.getD ix (0, 0, [])).2.2.map (numOf cls ord) ++ List.replicate (l - (R.getD ix (0, 0, [])).2.2.length) number⟩
def okAll (O : List Stg) (R : List SRow) (cls ord : List Nat) : Bool :=
  decide (O.length = R.length) && decide (R.length ≤ 3000) && decide (1 ≤ R.length) && decide (ord.length ≤ 64) && decide (linesOf O ≤ 16) &&
  (R.all fun w => decide (w.2.1 < R.length) && decide (w.2.2.length ≤ linesOf O) && w.2.2.all fun g => decide (g < R.length)) &&
  (ord.all fun ix => decide (ix < R.length) && decide (cl cls (R.getD ix (0, 0, [])).2.1 ∈ ord.map (cl cls)) && (R.getD ix (0, 0, [])).2.2.all fun g => decide (cl cls g ∈ ord.map (cl cls)))
def plainF (t : Tb) : Option Tb := match stagesF t 2000 [(0, [])] [] with
  | none => none
  | some (O, R) => match classF R 500 0 (places [] (keys1 O R)).1 with
    | none => none
    | some cls => match firstsF cls R 2000 0 [0] with
      | none => none
      | some ord => if okAll O R cls ord then some ⟨linesOf O, ord.zipIdx.map fun p => pRow cls ord R (linesOf O) p.1 p.2⟩ else none
theorem sp_checkPolicy {t : Tb} {M : Mem} (h : OkT t) : Wp (m_check_policy [tabD t] M) fun d M' => Kp NoW M M' := by
  refine wp_fn rfl [some (tabD t)] rfl ?_
  unfold b_check_policy
  array_get_dec
  refine (sp_isPolicy h).go ?_
  rintro _ M1 ⟨rfl, k1⟩
  array_get_dec
  refine ki_of (c := false) (by ac_nf0) ?_
  array_get_dec
  exact k1
theorem sp_plain {t t' : Tb} {M : Mem} (ht : OkT t) (hp : plainF t = some t') : Wp (m_plain [tabD t] M) fun d M' => d = tabD t' ∧ Kp NoW M M' := by
  unfold plainF at hp
  split at hp
  · cases hp
  rename_i O R hS
  split at hp
  · cases hp
  rename_i cls hC
  split at hp
  · cases hp
  rename_i ord hF
  split at hp
  rotate_left
  · cases hp
  rename_i hok
  cases hp
  unfold okAll at hok
  simp only [Bool.and_eq_true, decide_eq_true_eq, List.all_eq_true] at hok
  obtain ⟨⟨⟨⟨⟨⟨o1, o2⟩, o3⟩, o4⟩, o5⟩, o6⟩, o7⟩ := hok
  have ok : OkR2 R := ⟨o2, fun w hw => (o6 w hw).1.1, fun w hw => ⟨by have := (o6 w hw).1.2; omega, (o6 w hw).2⟩⟩
  have hk1 : (keys1 O R).length = R.length := by unfold keys1; rw [List.length_zipWith]; omega
  have hcR := class_len hC (by rw [places_len, hk1])
  refine wp_fn rfl [some (tabD t), none, none, none, none, none, none, none, none, none, none, none, none, none, none, none] rfl ?_
  unfold b_plain c_MOST_STATES
  array_get_dec
  refine (sp_checkPolicy ht).go ?_
  rintro d1 M1 q1
  array_get_dec
  rename_i c M2 e2 g2 q2 l2
  refine (sp_init ht g2 (by omega) hS).go ?_
  rintro _ M3 ⟨rfl, ⟨o, p, r, ls, st3⟩, q3⟩
  have hM1 := q1.1
  have kk3 : Kp NoW M M3 := by
    refine (q1.tr q2).trans q3 ?_
    intro n hn e
    have e' : n = c := e
    omega
  array_get_dec
  refine (sp_classes st3 o1 ok (by omega) hC).go ?_
  rintro _ M4 ⟨kc, rfl, hkc, g4, q4⟩
  array_get_dec
  have st4 := st3.kpN q4
  refine (sp_firsts st4 ok g4 hcR o3 (by omega) hF).go ?_
  rintro _ M5 ⟨a, b, rfl, g5, d5, q5⟩
  array_get_dec
  have st5 := st4.kpN q5
  have c5 := q5.at g4 id
  have hc5 := st5.hc
  have ho5 := st5.ho
  refine ki_of (c := false) (decide_eq_false (by unfold intsN; rw [List.length_map]; omega)) ?_
  array_get_dec
  refine wq_lcG (fun _ => true) (fun i => match O[i]? with | some s => .int ((s.2.length : Nat) : Int) | none => .non) ?_
  array_get_dec
  refine ⟨by show (O.map stgD).length ≤ _; rw [List.length_map]; omega, ?_, ?_, ?_⟩
  · intro i M6 q6 hi
    have hi' : i < O.length := by have : i < (O.map stgD).length := hi; simpa using this
    have eO : O[i]? = some O[i] := List.getElem?_eq_getElem hi'
    refine ⟨.tup [.int (O[i].1 : Nat), .tup (intsN O[i].2)], by show stpL o i M6 = _; rw [stpL_at (q6.at ho5 id), List.getElem?_map, eO]; rfl, ?_⟩
    array_get_dec
    refine wp_ev (a := true) (M' := M6) rfl ⟨rfl, .refl, fun _ => ?_⟩
    array_get_dec
    refine ⟨?_, .refl⟩
    rw [eO]
    simp [intsN]
  · intro M6 q6
    show stpL o (O.map stgD).length M6 = _
    rw [stpL_at (q6.at ho5 id), List.getElem?_eq_none (Nat.le_refl _)]
  intro nx M6 e6 l6 q6 g6
  have g6' : M6[nx]? = some (.lst (intsN (O.map fun s => s.2.length))) := by
    rw [g6]
    congr 2
    show ((List.range (O.map stgD).length).filter fun _ => true).map _ = _
    rw [List.filter_eq_self.mpr fun _ _ => rfl, List.length_map]
    refine List.ext_getElem? fun i => ?_
    unfold intsN
    rw [List.map_map, List.getElem?_map, List.getElem?_map]
    by_cases hi : i < O.length
    · rw [List.getElem?_range hi, List.getElem?_eq_getElem hi]
      show some (match O[i]? with | some s => _ | none => _) = _
      rw [List.getElem?_eq_getElem hi]; rfl
    · rw [List.getElem?_eq_none (by simp; omega), List.getElem?_eq_none (by omega)]; rfl
  array_get_dec
  refine wq_maxN g6' (by intro e; have := congrArg List.length e; simp at this; rw [this] at o1; simp at o1; omega) ?_
  array_get_dec
  rename_i rc M7 e7 g7 q7 l7
  have st7 := (st5.kpN q6).kpN q7
  have c7 := q7.at (q6.at c5 id) id
  have a7 := q7.at (q6.at g5 id) id
  have b7 := q7.at (q6.at d5 id) id
  have zc := lt_of (q6.at c5 id)
  have za := lt_of (q6.at g5 id)
  have zb := lt_of (q6.at d5 id)
  have z6 := (st5.kpN q6).lt
  have hco := st5.co
  have hop := st5.op
  have hpr := st5.pr
  have kk7 : Kp NoW M M7 := ((((kk3.tr q4).tr q5).tr q6).tr q7)
  have hM7 := kk7.1
  have hM6 : M.length ≤ M6.length := ((((kk3.tr q4).tr q5).tr q6)).1
  generalize hPR : (ord.zipIdx.map fun p => pRow cls ord R (linesOf O) p.1 p.2) = PR
  have hPl : PR.length = ord.length := by rw [← hPR]; simp
  have hLN : (O.map fun s => s.2.length).foldl max 0 = linesOf O := rfl
  rw [hLN]
  refine wq_for (fun i env M' => ∃ (x7 x8 x9 x10 x11 x12 : Option Dv), env = [some (tabD t), some (.loc c), some (.loc kc), some (.loc a), some (.loc b), some (.int (linesOf O : Nat)), some (.loc rc), x7, x8, x9, x10, x11, x12, none, none, none] ∧ M'[rc]? = some (.lst ((PR.take i).map rowD)) ∧ Kp (At rc) M7 M') ?_
  array_get_dec
  refine k_forEM (fun i env M' hh => by obtain ⟨_, _, _, _, _, _, _, _, hh⟩ := hh; exact hh.at a7 (by show ¬ a = rc; omega)) ⟨none, none, none, none, none, none, rfl, g7, .refl⟩ ?_ ?_
  · rintro i d env M8 hd ⟨x7, x8, x9, x10, x11, x12, rfl, r8, q8⟩
    have hi : i < ord.length := by have := (List.getElem?_eq_some_iff.mp hd).1; unfold intsN at this; rw [List.length_map] at this; exact this
    have ei : ord[i]? = some ord[i] := List.getElem?_eq_getElem hi
    have ed : d = .int ((ord[i] : Nat) : Int) := by rw [ints_at ei] at hd; cases hd; rfl
    subst ed
    obtain ⟨⟨w1, w2⟩, w3⟩ := o7 ord[i] (List.getElem_mem hi)
    have er : R[ord[i]]? = some (R.getD ord[i] (0, 0, [])) := by rw [List.getD_eq_getElem?_getD, List.getElem?_eq_getElem w1]; rfl
    have hw := List.mem_of_getElem? er
    have eP : PR[i]? = some (pRow cls ord R (linesOf O) ord[i] i) := by
      rw [← hPR, List.getElem?_map, List.getElem?_zipIdx, ei]; simp
    obtain ⟨n, hn⟩ : ∃ n, ls[ord[i]]? = some n := ⟨ls[ord[i]]'(by have := st5.hn; omega), List.getElem?_eq_getElem _⟩
    unfold pRow at eP
    generalize hgw : R.getD ord[i] (0, 0, []) = w at *
    have wq := o6 w hw
    have nl : n < M6.length := z6.2 n (List.mem_of_getElem? hn)
    have st8 : StAt c o p r O R ls M8 := st7.kp q8 fun x e => by
      have e' : x = rc := e
      refine ⟨by omega, by omega, by omega, by omega, fun hx => ?_⟩
      have := z6.2 x hx
      omega
    have hc8 := st8.hc
    have hr8 := st8.hr
    have hl8 := st8.hl _ _ _ hn er
    have c8 := q8.at c7 (show ¬ kc = rc by omega)
    have b8 := q8.at b7 (show ¬ b = rc by omega)
    have ez : (List.zipWith srD R ls)[ord[i]]? = some (.tup [.int (w.1 : Nat), .int (w.2.1 : Nat), .loc n]) := by rw [List.getElem?_zipWith, er, hn]; rfl
    have look : ∀ g, g < R.length → cl cls g ∈ ord.map (cl cls) → valD (enK (ord.map (cl cls))) (.inl ((cl cls g : Nat) : Int)) = some (.int ((numOf cls ord g : Nat) : Int)) := by
      intro g _ hg
      rw [val_enK, if_pos hg]; rfl
    have clat : ∀ g, g < R.length → (intsN cls)[g]? = some (.int ((cl cls g : Nat) : Int)) := fun g hg => ints_at (getD_at (by omega))
    array_get_dec
    refine wq_map (fun x => match x with | .int j => .int ((numOf cls ord j.toNat : Nat) : Int) | _ => .non) ?_
    array_get_dec
    refine k_mapL hl8 (size_le (by unfold intsN; rw [List.length_map]; have := wq.1.2; omega)) ?_ ?_
    · intro y hy M9 q9
      obtain ⟨g, hg, rfl⟩ := List.mem_map.mp hy
      have hgR := wq.2 g hg
      have c9 := q9.at c8 id
      have eg := clat g hgR
      array_get_dec
      refine wp_ixK (q9.at b8 id) (k := .inl ((cl cls g : Nat) : Int)) rfl (look g hgR (w3 g hg)) ?_
      exact ⟨rfl, .refl⟩
    · intro n9 M9 e9 l9 q9 g9
      have g9' : M9[n9]? = some (.lst (intsN (w.2.2.map (numOf cls ord)))) := by
        rw [g9]; unfold intsN; rw [List.map_map, List.map_map]; rfl
      have c9 := q9.at c8 id
      have r9 := q9.at r8 id
      have b9 := q9.at b8 id
      have ea := clat _ wq.1.1
      clear g9
      array_get_dec
      refine wp_ixK b9 (k := .inl ((cl cls w.2.1 : Nat) : Int)) rfl (look _ wq.1.1 w2) ?_
      array_get_dec
      rename_i nA MA eA gA qA lA
      have hsub : ((linesOf O : Nat) : Int) - ((intsN (w.2.2.map (numOf cls ord))).length : Nat) = ((linesOf O - w.2.2.length : Nat) : Int) := by
        have := wq.1.2
        unfold intsN
        rw [List.length_map, List.length_map]
        omega
      rw [hsub]
      refine wq_mulL gA (by show 1 ≤ 16; decide) (by omega) ?_
      array_get_dec
      rename_i nB MB eB gB qB lB
      refine wq_addL (qB.at (qA.at g9' id) id) gB (by have := wq.1.2; unfold intsN; simp; omega) ?_
      array_get_dec
      rename_i nC MC eC gC qC lC
      refine wq_append (qC.at (qB.at (qA.at r9 id) id) id) (size_lt (by rw [List.length_map, List.length_take]; omega)) ?_
      array_get_dec
      rename_i MD gD qD lD
      have hM8 := q8.1
      refine ⟨_, _, _, _, _, _, rfl, ?_, ((((q8.trN q9).trN qA).trN qB).trN qC).trans qD fun n _ e => e⟩
      rw [gD, take_succ_of eP, List.map_append]
      congr 3
      show [_] = [rowD _]
      unfold rowD
      simp only
      have ef : intsN (w.2.2.map (numOf cls ord)) ++ (List.replicate (linesOf O - w.2.2.length) [Dv.int (i : Nat)]).flatten = intsN (w.2.2.map (numOf cls ord) ++ List.replicate (linesOf O - w.2.2.length) i) := by
        unfold intsN
        rw [List.map_append, List.map_replicate, List.flatten_replicate_singleton]
      rw [ef]
  · rintro env M8 ⟨x7, x8, x9, x10, x11, x12, rfl, r8, q8⟩
    rw [List.take_of_length_le (by unfold intsN; rw [List.length_map]; omega)] at r8
    array_get_dec
    refine ⟨rfl, kk7.trans q8 ?_⟩
    intro n hn e
    have e' : n = rc := e
    omega
end L55

/-! text I1_55 -/
namespace L55
open PySem L2 PySem.Spec PyProof.Rows Zl
/-! ## numbers of things, in the order in which they come -/
theorem nd_len {α : Type} [DecidableEq α] : ∀ {xs ys : List α}, xs.Nodup → (∀ x ∈ xs, x ∈ ys) → xs.length ≤ ys.length
  | [], _, _, _ => Nat.zero_le _
  | x :: xs, ys, h, hs => by
    obtain ⟨h1, h2⟩ := List.nodup_cons.mp h
    have hx := hs x (List.mem_cons_self ..)
    have := nd_len (xs := xs) (ys := ys.erase x) h2 fun z hz => (List.mem_erase_of_ne (fun e => h1 (by rw [← e]; exact hz))).mpr (hs z (List.mem_cons_of_mem _ hz))
    have e := List.length_erase_of_mem hx
    have : 0 < ys.length := List.length_pos_of_mem hx
    rw [List.length_cons]
    omega
theorem nd_cover {α : Type} [DecidableEq α] : ∀ {ys xs : List α}, ys.Nodup → (∀ y ∈ ys, y ∈ xs) → xs.length ≤ ys.length → xs.Nodup
  | [], xs, _, _, h => by rw [List.length_eq_zero_iff.mp (Nat.le_zero.mp h)]; exact List.nodup_nil
  | y :: ys, xs, hn, hs, hl => by
    obtain ⟨h1, h2⟩ := List.nodup_cons.mp hn
    have hy := hs y (List.mem_cons_self ..)
    have he := List.length_erase_of_mem hy
    have hp : 0 < xs.length := List.length_pos_of_mem hy
    have hc : ∀ z ∈ ys, z ∈ xs.erase y := fun z hz => (List.mem_erase_of_ne (fun e => h1 (by rw [← e]; exact hz))).mpr (hs z (List.mem_cons_of_mem _ hz))
    rw [List.length_cons] at hl
    have hn2 := nd_cover h2 hc (by omega)
    have hy2 : y ∉ xs.erase y := fun hm => by
      have := nd_len (xs := y :: ys) (ys := xs.erase y) hn fun z hz => (List.mem_cons.mp hz).elim (fun e => e ▸ hm) (hc z)
      rw [List.length_cons] at this
      omega
    exact (List.perm_cons_erase hy).nodup_iff.mpr (List.nodup_cons.mpr ⟨hy2, hn2⟩)
section
variable {α : Type} [DecidableEq α]
theorem ix_mem {x : α} : ∀ {xs : List α}, x ∈ xs → xs[ixOf x xs]? = some x
  | y :: ys, h => by
    unfold ixOf
    split
    · rename_i e; rw [e]; rfl
    · rename_i e
      have hm : x ∈ ys := (List.mem_cons.mp h).resolve_left fun q => e q.symm
      rw [List.getElem?_cons_succ]
      exact ix_mem hm
theorem ix_lt {x : α} {xs : List α} (h : x ∈ xs) : ixOf x xs < xs.length := (List.getElem?_eq_some_iff.mp (ix_mem h)).1
theorem ix_app {x : α} : ∀ {xs ys : List α}, x ∈ xs → ixOf x (xs ++ ys) = ixOf x xs
  | y :: ys, zs, h => by
    show (if y = x then 0 else ixOf x (ys ++ zs) + 1) = if y = x then 0 else ixOf x ys + 1
    split
    · rfl
    · rename_i e
      rw [ix_app ((List.mem_cons.mp h).resolve_left fun q => e q.symm)]
theorem ix_inj {x y : α} {xs : List α} (hx : x ∈ xs) (hy : y ∈ xs) (h : ixOf x xs = ixOf y xs) : x = y := by
  have h1 := ix_mem hx
  rw [h, ix_mem hy] at h1
  exact (Option.some.inj h1).symm
theorem place_pre (o : List α) (s : α) : ∃ ys, (placeOf o s).2 = o ++ ys := by
  unfold placeOf
  split
  · exact ⟨[], by simp⟩
  · exact ⟨[s], rfl⟩
theorem place_in (o : List α) (s : α) : s ∈ (placeOf o s).2 := by
  unfold placeOf
  split
  · assumption
  · simp
theorem place_ix (o : List α) (s : α) : (placeOf o s).1 = ixOf s (placeOf o s).2 := by
  unfold placeOf
  split
  · rfl
  · rename_i h
    exact (ix_new h).symm
theorem place_nd {o : List α} (s : α) (h : o.Nodup) : (placeOf o s).2.Nodup := by
  unfold placeOf
  split
  · exact h
  · rename_i hs
    rw [List.nodup_append]
    refine ⟨h, by simp, fun a ha b hb e => ?_⟩
    have : b = s := by simpa using hb
    exact hs (this ▸ e ▸ ha)
theorem place_mem {o : List α} {s x : α} (h : x ∈ (placeOf o s).2) : x ∈ o ∨ x = s := by
  unfold placeOf at h
  split at h
  · exact .inl h
  · rcases List.mem_append.mp h with h | h
    · exact .inl h
    · exact .inr (by simpa using h)
theorem places_pre : ∀ (o ss : List α), ∃ ys, (places o ss).2 = o ++ ys
  | o, [] => ⟨[], by simp [places]⟩
  | o, s :: ss => by
    obtain ⟨y1, h1⟩ := place_pre o s
    obtain ⟨y2, h2⟩ := places_pre (placeOf o s).2 ss
    exact ⟨y1 ++ y2, by show (places (placeOf o s).2 ss).2 = _; rw [h2, h1, List.append_assoc]⟩
theorem places_nd : ∀ {o : List α} (ss : List α), o.Nodup → (places o ss).2.Nodup
  | o, [], h => h
  | o, s :: ss, h => places_nd ss (place_nd s h)
theorem places_in : ∀ {o ss : List α} {x : α}, x ∈ ss → x ∈ (places o ss).2
  | o, s :: ss, x, h => by
    rcases List.mem_cons.mp h with rfl | h
    · obtain ⟨ys, e⟩ := places_pre (placeOf o x).2 ss
      show x ∈ (places (placeOf o x).2 ss).2
      rw [e]
      exact List.mem_append_left _ (place_in o x)
    · exact places_in (o := (placeOf o s).2) h
theorem places_mem : ∀ {o ss : List α} {x : α}, x ∈ (places o ss).2 → x ∈ o ∨ x ∈ ss
  | o, [], x, h => .inl h
  | o, s :: ss, x, h => by
    rcases places_mem (o := (placeOf o s).2) (ss := ss) h with h | h
    · exact (place_mem h).imp id fun e => by simp [e]
    · exact .inr (List.mem_cons_of_mem _ h)
theorem places_ix : ∀ (o ss : List α), (places o ss).1 = ss.map fun s => ixOf s (places o ss).2
  | o, [] => rfl
  | o, s :: ss => by
    obtain ⟨ys, e⟩ := places_pre (placeOf o s).2 ss
    show (placeOf o s).1 :: (places (placeOf o s).2 ss).1 = ixOf s (places (placeOf o s).2 ss).2 :: ss.map fun s' => ixOf s' (places (placeOf o s).2 ss).2
    rw [← places_ix (placeOf o s).2 ss, place_ix, e, ix_app (place_in o s)]
end
/-! ## how many there are -/
theorem dd_step {xs : List Int} {x : Int} : step_dedup xs x = if xs.any (· == x) then xs else xs ++ [x] := rfl
theorem dd_nd : ∀ (is acc : List Int), acc.Nodup → (is.foldl step_dedup acc).Nodup
  | [], _, h => h
  | i :: is, acc, h => by
    refine dd_nd is (step_dedup acc i) ?_
    rw [dd_step]
    split
    · exact h
    · rename_i hs
      rw [List.nodup_append]
      refine ⟨h, by simp, fun a ha b hb e => hs ?_⟩
      have : b = i := by simpa using hb
      exact List.any_eq_true.mpr ⟨a, ha, by simp [e, this]⟩
theorem dd_mem : ∀ {is acc : List Int} {x : Int}, x ∈ is.foldl step_dedup acc ↔ x ∈ acc ∨ x ∈ is
  | [], acc, x => by simp
  | i :: is, acc, x => by
    rw [List.foldl_cons, dd_mem, dd_step]
    split
    · rename_i hs
      obtain ⟨y, hy, e⟩ := List.any_eq_true.mp hs
      have e2 : y = i := by simpa using e
      subst e2
      constructor
      · rintro (h | h)
        · exact .inl h
        · exact .inr (by simp [h])
      · rintro (h | h)
        · exact .inl h
        · rcases List.mem_cons.mp h with rfl | h
          · exact .inl hy
          · exact .inr h
    · simp [List.mem_append, or_assoc]
theorem dedup_is (is : List Int) : dedupI is = is.foldl step_dedup [] := by
  unfold dedupI firstMet
  congr 1
  refine List.ext_getElem (by simp) fun i h1 h2 => ?_
  simp [List.getD_eq_getElem?_getD, h2]
theorem cnt_le {fd : List Nat} {N : Nat} (h : ∀ v ∈ fd, v < N) : cnt fd ≤ N := by
  unfold cnt
  rw [dedup_is]
  have := nd_len (xs := (fd.map Int.ofNat).foldl step_dedup []) (ys := (List.range N).map Int.ofNat) (dd_nd _ _ List.nodup_nil) fun x hx => by
    rcases dd_mem.mp hx with h' | h'
    · cases h'
    · obtain ⟨v, hv, rfl⟩ := List.mem_map.mp h'
      exact List.mem_map.mpr ⟨v, List.mem_range.mpr (h v hv), rfl⟩
  simpa using this
theorem cnt_ge {fd : List Nat} {N : Nat} (h : ∀ v, v < N → v ∈ fd) : N ≤ cnt fd := by
  unfold cnt
  rw [dedup_is]
  have hn : ((List.range N).map Int.ofNat).Nodup := List.pairwise_map.mpr (List.nodup_range.imp fun e q => e (Int.ofNat.inj q))
  have := nd_len (ys := (fd.map Int.ofNat).foldl step_dedup []) (xs := (List.range N).map Int.ofNat) hn fun x hx => by
    obtain ⟨v, hv, rfl⟩ := List.mem_map.mp hx
    exact dd_mem.mpr (.inr (List.mem_map.mpr ⟨v, h v (List.mem_range.mp hv), rfl⟩))
  simpa using this
theorem cnt_places {α : Type} [DecidableEq α] (ks : List α) : cnt (places [] ks).1 = (places [] ks).2.length := by
  have e := places_ix [] ks
  refine Nat.le_antisymm (cnt_le fun v hv => ?_) (cnt_ge fun v hv => ?_)
  · rw [e] at hv
    obtain ⟨k, hk, rfl⟩ := List.mem_map.mp hv
    exact ix_lt (places_in hk)
  · have hm : (places [] ks).2[v] ∈ ks := (places_mem (List.getElem_mem hv)).resolve_left (by simp)
    rw [e]
    refine List.mem_map.mpr ⟨_, hm, ?_⟩
    have h1 := ix_mem (places_in (o := []) hm)
    have h2 : (places [] ks).2[v]? = some (places [] ks).2[v] := List.getElem?_eq_getElem hv
    have nd := places_nd (o := []) ks List.nodup_nil
    obtain ⟨i1, e1⟩ := List.getElem?_eq_some_iff.mp h1
    exact (List.getElem_inj nd).mp e1
end L55

/-! text I2_55 -/
namespace L55
open PySem L2 PySem.Spec PyProof.Rows Zl
/-! ## the classes are those of the stages that are equal in effect -/
abbrev rR (R : List SRow) (i : Nat) : SRow := R.getD i (0, 0, [])
def gR (R : List SRow) : Gr Nat := ⟨fun i => (rR R i).1, fun i => (rR R i).2.2.length, fun i => (rR R i).2.1 :: (rR R i).2.2⟩
theorem rR_at {R : List SRow} {i : Nat} (h : i < R.length) : R[i]? = some (rR R i) := by
  unfold rR
  rw [List.getD_eq_getElem?_getD, List.getElem?_eq_getElem h]; rfl
theorem getD_of {xs : List Nat} {i v : Nat} (h : xs[i]? = some v) : xs.getD i 0 = v := by rw [List.getD_eq_getElem?_getD, h]; rfl
/-- equal numbers, equal things -/
theorem num_same {α : Type} [DecidableEq α] {ks : List α} {i j : Nat} {x y : α} (hi : ks[i]? = some x) (hj : ks[j]? = some y) : (places [] ks).1.getD i 0 = (places [] ks).1.getD j 0 ↔ x = y := by
  have e := places_ix [] ks
  have h1 : (places [] ks).1[i]? = some (ixOf x (places [] ks).2) := by
    have := congrArg (fun l => l[i]?) e
    rw [this, List.getElem?_map, hi]; rfl
  have h2 : (places [] ks).1[j]? = some (ixOf y (places [] ks).2) := by
    have := congrArg (fun l => l[j]?) e
    rw [this, List.getElem?_map, hj]; rfl
  rw [getD_of h1, getD_of h2]
  exact ⟨fun q => ix_inj (places_in (List.mem_of_getElem? hi)) (places_in (List.mem_of_getElem? hj)) q, fun q => by rw [q]⟩
theorem keys2_at {fd : List Nat} {R : List SRow} {i : Nat} (hl : fd.length = R.length) (hi : i < R.length) : (keys2 fd R)[i]? = some (keyOf fd (fd.getD i 0) (rR R i)) := by
  unfold keys2
  rw [List.getElem?_zipWith, rR_at hi, getD_at (by omega)]
theorem keys2_len {fd : List Nat} {R : List SRow} (hl : fd.length = R.length) : (keys2 fd R).length = R.length := by
  unfold keys2; rw [List.length_zipWith]; omega
/-- the numbers fd are finer than the numbers pv by one step -/
def Finer (R : List SRow) (pv fd : List Nat) : Prop := pv.length = R.length ∧ fd = (places [] (keys2 pv R)).1
theorem finer_iff {R : List SRow} {pv fd : List Nat} (h : Finer R pv fd) {i j : Nat} (hi : i < R.length) (hj : j < R.length) :
    fd.getD i 0 = fd.getD j 0 ↔ keyOf pv (pv.getD i 0) (rR R i) = keyOf pv (pv.getD j 0) (rR R j) := by
  obtain ⟨h1, rfl⟩ := h
  exact num_same (keys2_at h1 hi) (keys2_at h1 hj)
/-- no more numbers: the same classes -/
theorem stable {α : Type} [DecidableEq α] {R : List SRow} {ks : List α} {pv fd : List Nat} (hk : ks.length = R.length) (hp : pv = (places [] ks).1) (h : Finer R pv fd) (hc : ¬ cnt pv < cnt fd) {i j : Nat} (hi : i < R.length) (hj : j < R.length)
    (e : pv.getD i 0 = pv.getD j 0) : fd.getD i 0 = fd.getD j 0 := by
  have e1 : cnt pv = (places [] ks).2.length := by rw [hp, cnt_places]
  have e2 : cnt fd = (places [] (keys2 pv R)).2.length := by rw [h.2, cnt_places]
  have cov : ((places [] (keys2 pv R)).2.map (·.1)).Nodup := by
    refine nd_cover (ys := List.range (places [] ks).2.length) List.nodup_range (fun v hv => ?_) (by rw [List.length_map, List.length_range]; omega)
    have hv' := List.mem_range.mp hv
    have hm : (places [] ks).2[v] ∈ ks := (places_mem (List.getElem_mem hv')).resolve_left (by simp)
    obtain ⟨k, hk1⟩ := List.getElem?_of_mem hm
    have hkl : k < R.length := by rw [← hk]; exact (List.getElem?_eq_some_iff.mp hk1).1
    have hv2 : pv.getD k 0 = v := by
      have e := places_ix [] ks
      refine getD_of ?_
      rw [hp, e, List.getElem?_map, hk1]
      show some (ixOf _ _) = _
      congr 1
      have h1 := ix_mem (places_in (o := []) hm)
      obtain ⟨i1, e1⟩ := List.getElem?_eq_some_iff.mp h1
      exact (List.getElem_inj (places_nd (o := []) ks List.nodup_nil)).mp e1
    refine List.mem_map.mpr ⟨_, places_in (List.mem_of_getElem? (keys2_at h.1 hkl)), ?_⟩
    exact hv2
  refine (finer_iff h hi hj).mpr ?_
  have m1 := places_in (o := []) (List.mem_of_getElem? (keys2_at h.1 hi))
  have m2 := places_in (o := []) (List.mem_of_getElem? (keys2_at h.1 hj))
  obtain ⟨a, ha⟩ := List.getElem?_of_mem m1
  obtain ⟨b, hb⟩ := List.getElem?_of_mem m2
  have q : a = b := by
    have l1 := (List.getElem?_eq_some_iff.mp ha).1
    have l2 := (List.getElem?_eq_some_iff.mp hb).1
    refine (List.getElem_inj (xs := (places [] (keys2 pv R)).2.map (·.1)) (h₀ := by simpa using l1) (h₁ := by simpa using l2) cov).mp ?_
    rw [List.getElem_map, List.getElem_map]
    rw [(List.getElem?_eq_some_iff.mp ha).2, (List.getElem?_eq_some_iff.mp hb).2]
    exact e
  subst q
  rw [ha] at hb
  exact Option.some.inj hb
structure Cls (R : List SRow) (fd : List Nat) : Prop where
  len : fd.length = R.length
  un : ∀ i j, i < R.length → j < R.length → fd.getD i 0 ≠ fd.getD j 0 → Un (gR R) i j
  base : ∀ i j, i < R.length → j < R.length → fd.getD i 0 = fd.getD j 0 → (rR R i).2.2.length = (rR R j).2.2.length ∧ (rR R i).1 = (rR R j).1
theorem key_ne {R : List SRow} {fd : List Nat} {i j : Nat} (ok : OkR2 R) (hc : Cls R fd) (hi : i < R.length) (hj : j < R.length) (h : keyOf fd (fd.getD i 0) (rR R i) ≠ keyOf fd (fd.getD j 0) (rR R j)) : Un (gR R) i j := by
  by_cases h1 : fd.getD i 0 = fd.getD j 0
  · obtain ⟨b1, b2⟩ := hc.base i j hi hj h1
    have oi := rR_at hi
    have oj := rR_at hj
    have ai := ok.after _ (List.mem_of_getElem? oi)
    have aj := ok.after _ (List.mem_of_getElem? oj)
    by_cases h2 : fd.getD (rR R i).2.1 0 = fd.getD (rR R j).2.1 0
    · have h3 : (rR R i).2.2.map (fun g => fd.getD g 0) ≠ (rR R j).2.2.map fun g => fd.getD g 0 := fun e => h (by unfold keyOf; rw [h1, h2, e])
      have : ∃ (k x y : Nat), (rR R i).2.2[k]? = some x ∧ (rR R j).2.2[k]? = some y ∧ fd.getD x 0 ≠ fd.getD y 0 := by
        refine Classical.byContradiction fun no => h3 (List.ext_getElem (by simpa using b1) fun k h4 h5 => ?_)
        rw [List.getElem_map, List.getElem_map]
        refine Classical.byContradiction fun ne => no ⟨k, _, _, List.getElem?_eq_getElem (by simpa using h4), List.getElem?_eq_getElem (by simpa using h5), ne⟩
      obtain ⟨k, x, y, q1, q2, ne⟩ := this
      have hx := (ok.hits _ (List.mem_of_getElem? oi)).2 x (List.mem_of_getElem? q1)
      have hy := (ok.hits _ (List.mem_of_getElem? oj)).2 y (List.mem_of_getElem? q2)
      exact .step (mem_zip_iff.mpr ⟨k + 1, q1, q2⟩) (hc.un x y hx hy ne)
    · exact .step (mem_zip_iff.mpr ⟨0, rfl, rfl⟩) (hc.un _ _ ai aj h2)
  · exact hc.un i j hi hj h1
theorem cls_next {R : List SRow} {fd fd' : List Nat} (ok : OkR2 R) (hc : Cls R fd) (h : Finer R fd fd') : Cls R fd' := by
  refine ⟨by rw [h.2, places_len, keys2_len h.1], fun i j hi hj ne => key_ne ok hc hi hj fun e => ne ((finer_iff h hi hj).mpr e), fun i j hi hj e => ?_⟩
  have := (finer_iff h hi hj).mp e
  exact hc.base i j hi hj (congrArg Prod.fst this)
/-- where the numbers are stable -/
theorem cls_end {R : List SRow} {pv fd : List Nat} (ok : OkR2 R) (hc : Cls R fd) (h : Finer R pv fd) (hs : ∀ i j, i < R.length → j < R.length → pv.getD i 0 = pv.getD j 0 → fd.getD i 0 = fd.getD j 0) {i j : Nat} (hi : i < R.length) (hj : j < R.length) :
    fd.getD i 0 = fd.getD j 0 ↔ ¬ Un (gR R) i j := by
  refine ⟨fun e u => ?_, fun n => Classical.byContradiction fun ne => n (hc.un i j hi hj ne)⟩
  induction u with
  | @base i j q =>
    obtain ⟨b1, b2⟩ := hc.base i j hi hj e
    rcases q with q | q
    · exact q b1
    · exact q b2
  | @step i j x y hm _ ih =>
    have k := (finer_iff h hi hj).mp e
    have oi := rR_at hi
    have oj := rR_at hj
    obtain ⟨p, q1, q2⟩ := mem_zip_iff.mp hm
    have q1' : ((rR R i).2.1 :: (rR R i).2.2)[p]? = some x := q1
    have q2' : ((rR R j).2.1 :: (rR R j).2.2)[p]? = some y := q2
    have hx : x < R.length := by
      rcases List.mem_cons.mp (List.mem_of_getElem? q1') with e | e
      · rw [e]; exact ok.after _ (List.mem_of_getElem? oi)
      · exact (ok.hits _ (List.mem_of_getElem? oi)).2 x e
    have hy : y < R.length := by
      rcases List.mem_cons.mp (List.mem_of_getElem? q2') with e | e
      · rw [e]; exact ok.after _ (List.mem_of_getElem? oj)
      · exact (ok.hits _ (List.mem_of_getElem? oj)).2 y e
    refine ih hx hy (hs x y hx hy ?_)
    unfold keyOf at k
    simp only [Prod.mk.injEq] at k
    obtain ⟨_, k2, k3⟩ := k
    cases p with
    | zero =>
      have e1 : (rR R i).2.1 = x := Option.some.inj q1'
      have e2 : (rR R j).2.1 = y := Option.some.inj q2'
      rw [← e1, ← e2]; exact k2
    | succ p =>
      rw [List.getElem?_cons_succ] at q1' q2'
      have := congrArg (fun l => l[p]?) k3
      simp only [List.getElem?_map, q1', q2', Option.map_some, Option.some.injEq] at this
      exact this
theorem class_end {R : List SRow} (ok : OkR2 R) (h1 : 1 ≤ R.length) : ∀ {f cn : Nat} {fd cls : List Nat}, classF R f cn fd = some cls → Cls R fd → (cn = 0 ∨ ∃ pv, Finer R pv fd ∧ cn = cnt pv ∧ ((∃ ks : List (Nat × Nat), ks.length = R.length ∧ pv = (places [] ks).1) ∨ ∃ ks : List SRow, ks.length = R.length ∧ pv = (places [] ks).1)) →
    ((∃ ks : List (Nat × Nat), ks.length = R.length ∧ fd = (places [] ks).1) ∨ ∃ ks : List SRow, ks.length = R.length ∧ fd = (places [] ks).1) →
    cls.length = R.length ∧ ∀ i j, i < R.length → j < R.length → (cl cls i = cl cls j ↔ ¬ Un (gR R) i j)
  | 0, _, _, _, h, _, _, _ => by cases h
  | f + 1, cn, fd, cls, h, hc, hp, hk => by
    unfold classF at h
    split at h
    · rename_i hlt
      have fn : Finer R fd (places [] (keys2 fd R)).1 := ⟨hc.len, rfl⟩
      exact class_end ok h1 h (cls_next ok hc fn) (.inr ⟨fd, fn, rfl, hk⟩) (.inr ⟨_, keys2_len hc.len, rfl⟩)
    · rename_i hlt
      cases h
      refine ⟨hc.len, fun i j hi hj => ?_⟩
      have pos : 1 ≤ cnt fd := by
        refine cnt_ge (N := 1) fun v hv => ?_
        have : v = 0 := by omega
        subst this
        have ex : ∀ {α : Type} [DecidableEq α] {ks : List α}, ks.length = R.length → 0 ∈ (places [] ks).1 := by
          intro α _ ks hk
          match ks, hk with
          | [], hk => have : R.length = 0 := hk.symm; omega
          | k :: ks, _ => exact List.mem_cons.mpr (.inl rfl)
        rcases hk with ⟨ks, a, rfl⟩ | ⟨ks, a, rfl⟩
        · exact ex a
        · exact ex a
      rcases hp with rfl | ⟨pv, fn, rfl, hk2⟩
      · omega
      · refine cls_end ok hc fn (fun a b ha hb e => ?_) hi hj
        rcases hk2 with ⟨ks, k1, k2⟩ | ⟨ks, k1, k2⟩
        · exact stable k1 k2 fn hlt ha hb e
        · exact stable k1 k2 fn hlt ha hb e
theorem class_some {R : List SRow} : ∀ (f cn : Nat) (fd : List Nat), fd.length = R.length → cn ≤ R.length → R.length + 1 ≤ f + cn → cnt fd ≤ R.length → ∃ cls, classF R f cn fd = some cls
  | 0, cn, fd, _, h1, h2, _ => by omega
  | f + 1, cn, fd, hl, h1, h2, h3 => by
    unfold classF
    split
    · rename_i hlt
      refine class_some f (cnt fd) _ (by rw [places_len, keys2_len hl]) h3 (by omega) ?_
      rw [cnt_places]
      have := nd_len (xs := (places [] (keys2 fd R)).2) (ys := keys2 fd R) (places_nd (o := []) _ List.nodup_nil) fun x hx => (places_mem hx).resolve_left (by simp)
      rw [keys2_len hl] at this
      exact this
    · exact ⟨fd, rfl⟩
end L55

/-! text I3_55 -/
namespace L55
open PySem L2 PySem.Spec PyProof.Rows Zl
/-! ## the stages of a table -/
def gT (t : Tb) : Gr Stg := ⟨fun s => (afterMiss t s).1, fun s => s.2.length, fun s => (afterMiss t s).2 :: afterHits t s⟩
/-- U has all stages that are come to -/
structure Clo (t : Tb) (U : List Stg) : Prop where
  first : (0, []) ∈ U
  ok : ∀ s ∈ U, stgOk t s = true
  go : ∀ s ∈ U, ∀ x ∈ (gT t).go s, x ∈ U
theorem hits_len {t : Tb} {s : Stg} : (afterHits t s).length = s.2.length := by unfold afterHits; rw [List.length_map]
/-- what histories lead to -/
inductive Rch (t : Tb) : Stg → Prop
  | first : Rch t (0, [])
  | go {s x : Stg} : Rch t s → x ∈ (gT t).go s → Rch t x
structure StR (t : Tb) (U : List Stg) (o : List Stg) (rs : List SRow) : Prop where
  nd : o.Nodup
  le : rs.length ≤ o.length
  sub : ∀ s ∈ o, s ∈ U
  first : o[0]? = some (0, [])
  rch : ∀ s ∈ o, Rch t s
  row : ∀ i s, i < rs.length → o[i]? = some s → (∀ x ∈ (gT t).go s, x ∈ o) ∧ rs[i]? = some ((afterMiss t s).1, ixOf (afterMiss t s).2 o, (afterHits t s).map fun x => ixOf x o)
theorem StR.next {t : Tb} {U o : List Stg} {rs : List SRow} (C : Clo t U) (h : StR t U o rs) {s : Stg} (hs : o[rs.length]? = some s) :
    StR t U (places (placeOf o (afterMiss t s).2).2 (afterHits t s)).2 (rs ++ [((afterMiss t s).1, (placeOf o (afterMiss t s).2).1, (places (placeOf o (afterMiss t s).2).2 (afterHits t s)).1)]) := by
  have hsU := h.sub s (List.mem_of_getElem? hs)
  obtain ⟨y1, e1⟩ := place_pre o (afterMiss t s).2
  obtain ⟨y2, e2⟩ := places_pre (placeOf o (afterMiss t s).2).2 (afterHits t s)
  have e12 : (places (placeOf o (afterMiss t s).2).2 (afterHits t s)).2 = o ++ (y1 ++ y2) := by rw [e2, e1, List.append_assoc]
  have lt := (List.getElem?_eq_some_iff.mp hs).1
  have m1 : (afterMiss t s).2 ∈ (placeOf o (afterMiss t s).2).2 := place_in _ _
  have m2 : ∀ x ∈ afterHits t s, x ∈ (places (placeOf o (afterMiss t s).2).2 (afterHits t s)).2 := fun x hx => places_in hx
  have m3 : (afterMiss t s).2 ∈ (places (placeOf o (afterMiss t s).2).2 (afterHits t s)).2 := by rw [e2]; exact List.mem_append_left _ m1
  have hr := h.rch s (List.mem_of_getElem? hs)
  refine ⟨places_nd _ (place_nd _ h.nd), ?_, fun x hx => ?_, ?_, fun x hx => ?_, fun i s' hi hs' => ?_⟩
  · rw [e12, List.length_append, List.length_append, List.length_singleton]; omega
  · rcases places_mem hx with hx | hx
    · rcases place_mem hx with hx | rfl
      · exact h.sub x hx
      · exact C.go s hsU _ (List.mem_cons_self ..)
    · exact C.go s hsU _ (List.mem_cons_of_mem _ hx)
  · rw [e12, List.getElem?_append_left (by omega)]; exact h.first
  · rcases places_mem hx with hx | hx
    · rcases place_mem hx with hx | rfl
      · exact h.rch x hx
      · exact .go hr (List.mem_cons_self ..)
    · exact .go hr (List.mem_cons_of_mem _ hx)
  · rw [List.length_append, List.length_singleton] at hi
    have hi2 : i < o.length := by omega
    rw [e12, List.getElem?_append_left hi2] at hs'
    by_cases hl : i < rs.length
    · obtain ⟨r1, r2⟩ := h.row i s' hl hs'
      refine ⟨fun x hx => by rw [e12]; exact List.mem_append_left _ (r1 x hx), ?_⟩
      rw [List.getElem?_append_left hl, r2, e12]
      congr 3
      · rw [ix_app (r1 _ (List.mem_cons_self ..))]
      · exact List.map_congr_left fun x hx => by rw [ix_app (r1 x (List.mem_cons_of_mem _ hx))]
    · have : i = rs.length := by omega
      subst this
      rw [hs] at hs'
      cases hs'
      refine ⟨fun x hx => (List.mem_cons.mp hx).elim (fun e => e ▸ m3) (m2 x), ?_⟩
      rw [List.getElem?_append_right (Nat.le_refl _), Nat.sub_self]
      show some _ = some _
      congr 3
      · rw [place_ix, e2, ix_app m1]
      · exact places_ix _ _
theorem stages_ok {t : Tb} {U : List Stg} (C : Clo t U) (hU : U.length ≤ 900) : ∀ (f : Nat) (o : List Stg) (rs : List SRow), StR t U o rs → U.length + 1 ≤ f + rs.length →
    ∃ O R, stagesF t f o rs = some (O, R) ∧ StR t U O R ∧ O.length = R.length
  | 0, o, rs, h, hf => by
    have h1 := nd_len h.nd h.sub
    have h2 := h.le
    omega
  | f + 1, o, rs, h, hf => by
    unfold stagesF
    have h1 := nd_len h.nd h.sub
    cases e : o[rs.length]? with
    | none =>
      refine ⟨o, rs, rfl, h, ?_⟩
      have := List.getElem?_eq_none_iff.mp e
      have := h.le
      omega
    | some s =>
      have hs := C.ok s (h.sub s (List.mem_of_getElem? e))
      dsimp only
      rw [hs, decide_eq_true (show o.length ≤ 3000 by omega)]
      simp only [Bool.and_self, if_true]
      exact stages_ok C hU f _ _ (h.next C e) (by rw [List.length_append, List.length_singleton]; omega)
theorem stages_at {t : Tb} {U : List Stg} (C : Clo t U) (hU : U.length ≤ 900) : ∃ O R, stagesF t 2000 [(0, [])] [] = some (O, R) ∧ StR t U O R ∧ O.length = R.length :=
  stages_ok C hU 2000 _ _ ⟨by simp, by simp, fun s hs => by rw [List.mem_singleton.mp hs]; exact C.first, rfl, fun s hs => by rw [List.mem_singleton.mp hs]; exact .first, fun i s hi => by cases hi⟩ (by simp; omega)
section
variable {t : Tb} {U O : List Stg} {R : List SRow}
abbrev sO (O : List Stg) (i : Nat) : Stg := O.getD i (0, [])
theorem sO_at {i : Nat} (h : i < O.length) : O[i]? = some (sO O i) := by
  unfold sO
  rw [List.getD_eq_getElem?_getD, List.getElem?_eq_getElem h]; rfl
theorem row_is (h : StR t U O R) (hl : O.length = R.length) {i : Nat} (hi : i < R.length) : (∀ x ∈ (gT t).go (sO O i), x ∈ O) ∧ rR R i = ((afterMiss t (sO O i)).1, ixOf (afterMiss t (sO O i)).2 O, (afterHits t (sO O i)).map fun x => ixOf x O) := by
  obtain ⟨h1, h2⟩ := h.row i _ hi (sO_at (by omega))
  refine ⟨h1, ?_⟩
  rw [rR_at hi] at h2
  exact Option.some.inj h2
theorem ix_back {x : Stg} (h : x ∈ O) : sO O (ixOf x O) = x := by
  have := ix_mem h
  rw [sO_at (ix_lt h)] at this
  exact Option.some.inj this
theorem stg_hom (h : StR t U O R) (hl : O.length = R.length) : Hom (gR R) (gT t) (sO O) (· < R.length) := by
  refine ⟨fun i hi x hx => ?_, fun i hi => ?_, fun i hi => ?_, fun i hi => ?_⟩
  · obtain ⟨h1, h2⟩ := row_is h hl hi
    have hx' : x ∈ (rR R i).2.1 :: (rR R i).2.2 := hx
    rw [h2] at hx'
    rcases List.mem_cons.mp hx' with e | e
    · rw [e, ← hl]; exact ix_lt (h1 _ (List.mem_cons_self ..))
    · obtain ⟨y, hy, rfl⟩ := List.mem_map.mp e
      rw [← hl]; exact ix_lt (h1 y (List.mem_cons_of_mem _ hy))
  · show (afterMiss t (sO O i)).1 = (rR R i).1
    rw [(row_is h hl hi).2]
  · show (sO O i).2.length = (rR R i).2.2.length
    rw [(row_is h hl hi).2]
    dsimp only
    rw [List.length_map, hits_len]
  · obtain ⟨h1, h2⟩ := row_is h hl hi
    show (afterMiss t (sO O i)).2 :: afterHits t (sO O i) = ((rR R i).2.1 :: (rR R i).2.2).map (sO O)
    rw [h2]
    simp only [List.map_cons, List.map_map]
    rw [ix_back (h1 _ (List.mem_cons_self ..))]
    congr 1
    conv => lhs; rw [← List.map_id (afterHits t (sO O i))]
    exact List.map_congr_left fun x hx => (ix_back (h1 x (List.mem_cons_of_mem _ hx))).symm
theorem okR2_of (C : Clo t U) (hU : U.length ≤ 900) (h : StR t U O R) (hl : O.length = R.length) : OkR2 R := by
  have hO := nd_len h.nd h.sub
  have get : ∀ w ∈ R, ∃ i, i < R.length ∧ rR R i = w := fun w hw => by
    obtain ⟨i, e⟩ := List.getElem?_of_mem hw
    have hi := (List.getElem?_eq_some_iff.mp e).1
    rw [rR_at hi] at e
    exact ⟨i, hi, Option.some.inj e⟩
  refine ⟨by omega, fun w hw => ?_, fun w hw => ?_⟩
  · obtain ⟨i, hi, rfl⟩ := get w hw
    obtain ⟨h1, h2⟩ := row_is h hl hi
    rw [h2, ← hl]
    exact ix_lt (h1 _ (List.mem_cons_self ..))
  · obtain ⟨i, hi, rfl⟩ := get w hw
    obtain ⟨h1, h2⟩ := row_is h hl hi
    have hs := C.ok _ (h.sub _ (List.mem_of_getElem? (sO_at (O := O) (by omega : i < O.length))))
    unfold stgOk at hs
    simp only [Bool.and_eq_true, decide_eq_true_eq] at hs
    rw [h2]
    refine ⟨?_, fun g hg => ?_⟩
    · dsimp only
      rw [List.length_map, hits_len]
      exact hs.1.2
    · obtain ⟨y, hy, rfl⟩ := List.mem_map.mp hg
      rw [← hl]; exact ix_lt (h1 y (List.mem_cons_of_mem _ hy))
/-- the classes of the program -/
theorem classes_are (C : Clo t U) (hU : U.length ≤ 400) (h : StR t U O R) (hl : O.length = R.length) : ∃ cls, classF R 500 0 (places [] (keys1 O R)).1 = some cls ∧ cls.length = R.length ∧
    ∀ i j, i < R.length → j < R.length → (cl cls i = cl cls j ↔ ¬ Un (gT t) (sO O i) (sO O j)) := by
  have hO := nd_len h.nd h.sub
  have ok := okR2_of C (by omega) h hl
  have k1 : (keys1 O R).length = R.length := by unfold keys1; rw [List.length_zipWith]; omega
  have kat : ∀ i, i < R.length → (keys1 O R)[i]? = some ((rR R i).2.2.length, (rR R i).1) := fun i hi => by
    unfold keys1
    rw [List.getElem?_zipWith, rR_at hi, sO_at (by omega)]
    show some ((sO O i).2.length, (rR R i).1) = _
    rw [(row_is h hl hi).2]
    dsimp only
    rw [List.length_map, hits_len]
  have lenf : (places [] (keys1 O R)).1.length = R.length := by rw [places_len, k1]
  have few : cnt (places [] (keys1 O R)).1 ≤ R.length := by
    rw [cnt_places]
    have := nd_len (xs := (places [] (keys1 O R)).2) (ys := keys1 O R) (places_nd (o := []) _ List.nodup_nil) fun x hx => (places_mem hx).resolve_left (by simp)
    rw [k1] at this
    exact this
  obtain ⟨cls, e⟩ := class_some 500 0 _ lenf (Nat.zero_le _) (by omega) few
  have c0 : Cls R (places [] (keys1 O R)).1 := by
    refine ⟨lenf, fun i j hi hj ne => .base ?_, fun i j hi hj q => ?_⟩
    · have n2 : ¬ (((rR R i).2.2.length, (rR R i).1) : Nat × Nat) = ((rR R j).2.2.length, (rR R j).1) := fun e => ne ((num_same (kat i hi) (kat j hj)).mpr e)
      show (rR R i).2.2.length ≠ (rR R j).2.2.length ∨ (rR R i).1 ≠ (rR R j).1
      refine Classical.byContradiction fun no => n2 ?_
      have a1 : (rR R i).2.2.length = (rR R j).2.2.length := Classical.byContradiction fun q => no (.inl q)
      have a2 : (rR R i).1 = (rR R j).1 := Classical.byContradiction fun q => no (.inr q)
      rw [a1, a2]
    · have := (num_same (kat i hi) (kat j hj)).mp q
      simp only [Prod.mk.injEq] at this
      exact this
  have pos : 1 ≤ R.length := by
    have := (List.getElem?_eq_some_iff.mp h.first).1
    omega
  obtain ⟨l1, l2⟩ := class_end ok pos e c0 (.inl rfl) (.inl ⟨_, k1, rfl⟩)
  exact ⟨cls, e, l1, fun i j hi hj => (l2 i j hi hj).trans (not_congr (un_hom (stg_hom h hl) hi hj).symm)⟩
end
end L55

/-! text I4_55 -/
namespace L55
open PySem L2 PySem.Spec PyProof.Rows Zl
/-! ## the first stages of the classes: the program's and the law's -/
def lkc (cls : List Nat) (x f : Nat) : Bool := decide (cl cls f = cl cls x)
theorem ix_not {α : Type} [DecidableEq α] {x : α} : ∀ {xs : List α}, x ∉ xs → ixOf x xs = xs.length
  | [], _ => rfl
  | y :: ys, h => by
    unfold ixOf
    rw [if_neg (fun e => h (by simp [e])), ix_not fun m => h (List.mem_cons_of_mem _ m)]; rfl
theorem idx_ix {cls : List Nat} {x : Nat} : ∀ ord : List Nat, (ord.findIdx fun f => lkc cls x f) = ixOf (cl cls x) (ord.map (cl cls))
  | [] => rfl
  | f :: ord => by
    rw [List.findIdx_cons, idx_ix ord]
    show (bif decide (cl cls f = cl cls x) then 0 else _) = if cl cls f = cl cls x then 0 else _
    by_cases h : cl cls f = cl cls x
    · rw [decide_eq_true h, if_pos h]; rfl
    · rw [decide_eq_false h, if_neg h]; rfl
theorem num1_add {cls ord : List Nat} {x : Nat} : num1 (lkc cls) ord x = (ixOf (cl cls x) (ord.map (cl cls)), add1 cls ord x) := by
  unfold num1 add1
  rw [idx_ix]
  refine Prod.ext rfl ?_
  dsimp only
  by_cases h : cl cls x ∈ ord.map (cl cls)
  · rw [if_pos h, if_pos (by have := ix_lt h; simpa using this)]
  · rw [if_neg h, if_neg (by rw [ix_not h]; simp)]
theorem add1_pl {cls ord : List Nat} {x : Nat} : (add1 cls ord x).map (cl cls) = (placeOf (ord.map (cl cls)) (cl cls x)).2 := by
  unfold add1 placeOf
  split
  · rfl
  · simp
theorem add1_pre {cls ord : List Nat} {x : Nat} : ∃ ys, add1 cls ord x = ord ++ ys := by
  unfold add1
  split
  · exact ⟨[], by simp⟩
  · exact ⟨[x], rfl⟩
theorem addG_pre {cls : List Nat} : ∀ {xs ord : List Nat}, ∃ ys, addG cls ord xs = ord ++ ys
  | [], ord => ⟨[], by simp [addG]⟩
  | x :: xs, ord => by
    obtain ⟨y1, h1⟩ := add1_pre (cls := cls) (ord := ord) (x := x)
    obtain ⟨y2, h2⟩ := addG_pre (cls := cls) (xs := xs) (ord := add1 cls ord x)
    exact ⟨y1 ++ y2, by show addG cls (add1 cls ord x) xs = _; rw [h2, h1, List.append_assoc]⟩
theorem addG_in {cls : List Nat} : ∀ {xs ord : List Nat} {x : Nat}, x ∈ xs → cl cls x ∈ (addG cls ord xs).map (cl cls)
  | y :: ys, ord, x, h => by
    rcases List.mem_cons.mp h with rfl | h
    · obtain ⟨zs, e⟩ := addG_pre (cls := cls) (xs := ys) (ord := add1 cls ord x)
      show cl cls x ∈ (addG cls (add1 cls ord x) ys).map (cl cls)
      rw [e, List.map_append, add1_pl]
      exact List.mem_append_left _ (place_in _ _)
    · exact addG_in (ord := add1 cls ord y) h
theorem addG_mem {cls : List Nat} : ∀ {xs ord : List Nat} {x : Nat}, x ∈ addG cls ord xs → x ∈ ord ∨ x ∈ xs
  | [], _, _, h => .inl h
  | y :: ys, ord, x, h => by
    rcases addG_mem (xs := ys) (ord := add1 cls ord y) h with h | h
    · unfold add1 at h
      split at h
      · exact .inl h
      · rcases List.mem_append.mp h with h | h
        · exact .inl h
        · exact .inr (by simp at h; simp [h])
    · exact .inr (List.mem_cons_of_mem _ h)
theorem addG_nd {cls : List Nat} : ∀ {xs ord : List Nat}, ord.Nodup → (addG cls ord xs).Nodup
  | [], _, h => h
  | y :: ys, ord, h => by
    refine addG_nd (xs := ys) (ord := add1 cls ord y) ?_
    unfold add1
    split
    · exact h
    · rename_i hs
      rw [List.nodup_append]
      refine ⟨h, by simp, fun a ha b hb e => hs ?_⟩
      have : b = y := by simpa using hb
      exact List.mem_map.mpr ⟨a, ha, by rw [e, this]⟩
theorem numL_add {cls : List Nat} : ∀ {xs ord : List Nat}, numL (lkc cls) ord xs = (xs.map (numOf cls (addG cls ord xs)), addG cls ord xs)
  | [], _ => rfl
  | x :: xs, ord => by
    have ih := numL_add (cls := cls) (xs := xs) (ord := add1 cls ord x)
    show ((num1 (lkc cls) ord x).1 :: (numL (lkc cls) (num1 (lkc cls) ord x).2 xs).1, (numL (lkc cls) (num1 (lkc cls) ord x).2 xs).2) = _
    rw [num1_add]
    dsimp only
    rw [ih]
    refine Prod.ext ?_ rfl
    show ixOf (cl cls x) (ord.map (cl cls)) :: _ = numOf cls (addG cls (add1 cls ord x) xs) x :: _
    congr 1
    obtain ⟨zs, e⟩ := addG_pre (cls := cls) (xs := xs) (ord := add1 cls ord x)
    unfold numOf
    rw [e, List.map_append, add1_pl, ix_app (place_in _ _), ← place_ix]
    unfold placeOf
    split
    · rfl
    · rename_i h; exact ix_not h
abbrev goR (R : List SRow) (s : Nat) : List Nat := (rR R s).2.1 :: (rR R s).2.2
def rowT (cls ord : List Nat) (R : List SRow) (s : Nat) : Nat × List Nat := ((rR R s).1, (goR R s).map (numOf cls ord))
theorem firsts_ok {R : List SRow} {cls : List Nat} (ok : OkR2 R) : ∀ (f : Nat) (ord : List Nat) (told : List (Nat × List Nat)), ord.Nodup → (∀ s ∈ ord, s < R.length) → told.length ≤ ord.length → R.length + 1 ≤ f + told.length →
    told = (ord.take told.length).map (rowT cls ord R) → (∀ s ∈ ord.take told.length, ∀ g ∈ goR R s, cl cls g ∈ ord.map (cl cls)) →
    ∃ ord', firstsF cls R f told.length ord = some ord' ∧ lawG (gR R) (lkc cls) f ord told = some (ord', ord'.map (rowT cls ord' R)) ∧ ord'.Nodup ∧ (∀ s ∈ ord', s < R.length) ∧ (∀ s ∈ ord', ∀ g ∈ goR R s, cl cls g ∈ ord'.map (cl cls)) ∧ ∃ ys, ord' = ord ++ ys
  | 0, ord, told, nd, hs, hl, hf, ht, hc => by
    have := nd_len (xs := ord) (ys := List.range R.length) nd fun s h => List.mem_range.mpr (hs s h)
    rw [List.length_range] at this
    omega
  | f + 1, ord, told, nd, hs, hl, hf, ht, hc => by
    unfold firstsF lawG
    have few := nd_len (xs := ord) (ys := List.range R.length) nd fun s h => List.mem_range.mpr (hs s h)
    rw [List.length_range] at few
    have R3 := ok.few
    cases e : ord[told.length]? with
    | none =>
      have el : told.length = ord.length := by have := List.getElem?_eq_none_iff.mp e; omega
      rw [el, List.take_length] at ht hc
      exact ⟨ord, rfl, by rw [← ht], nd, hs, hc, [], by simp⟩
    | some s =>
      have hsN := hs s (List.mem_of_getElem? e)
      have lt := (List.getElem?_eq_some_iff.mp e).1
      have w := rR_at hsN
      have w1 := ok.after _ (List.mem_of_getElem? w)
      have w2 := (ok.hits _ (List.mem_of_getElem? w)).2
      dsimp only
      rw [w]
      dsimp only
      rw [if_pos (show ord.length ≤ 3000 by omega)]
      have eg : (gR R).go s = goR R s := rfl
      have ep : (gR R).pl s = (rR R s).1 := rfl
      rw [eg, ep, numL_add]
      obtain ⟨ys, ey⟩ := addG_pre (cls := cls) (xs := goR R s) (ord := ord)
      have step := firsts_ok (cls := cls) ok f (addG cls ord (goR R s)) (told ++ [((rR R s).1, (goR R s).map (numOf cls (addG cls ord (goR R s))))]) (addG_nd nd)
        (fun x hx => (addG_mem hx).elim (hs x) fun h => (List.mem_cons.mp h).elim (fun q => q ▸ w1) (w2 x))
        (by rw [ey, List.length_append, List.length_append, List.length_singleton]; omega)
        (by rw [List.length_append, List.length_singleton]; omega)
      rw [List.length_append, List.length_singleton] at step
      have tk : (addG cls ord (goR R s)).take (told.length + 1) = ord.take told.length ++ [s] := by
        rw [ey, List.take_append_of_le_length (by omega), take_succ_of e]
      rw [tk] at step
      obtain ⟨ord', a1, a2, a3, a4, a5, zs, a6⟩ := step (by
        rw [List.map_append]
        refine congrArg (· ++ [rowT cls (addG cls ord (goR R s)) R s]) ?_
        conv => lhs; rw [ht]
        refine List.map_congr_left fun x hx => ?_
        unfold rowT
        refine Prod.ext rfl (List.map_congr_left fun g hg => ?_)
        unfold numOf
        rw [ey, List.map_append, ix_app (hc x hx g hg)]) (by
        intro x hx g hg
        rcases List.mem_append.mp hx with hx | hx
        · rw [ey, List.map_append]
          exact List.mem_append_left _ (hc x hx g hg)
        · have : x = s := by simpa using hx
          subst this
          exact addG_in hg)
      exact ⟨ord', a1, a2, a3, a4, a5, ys ++ zs, by rw [a6, ey, List.append_assoc]⟩
end L55

/-! text I5_55 -/
namespace L55
open PySem L2 PySem.Spec PyProof.Rows Zl
/-! ## the program's plain form is what the law's look tells -/
def mkRow (l : Nat) (p : (Nat × List Nat) × Nat) : Row := ⟨p.1.1, p.1.2.headD 0, p.1.2.tail ++ List.replicate (l + 1 - p.1.2.length) p.2⟩
def mkT (l : Nat) (told : List (Nat × List Nat)) : Tb := ⟨l, told.zipIdx.map (mkRow l)⟩
theorem foldl_max_le : ∀ (xs : List Nat) (m : Nat), m ≤ xs.foldl max m ∧ ∀ x ∈ xs, x ≤ xs.foldl max m
  | [], m => ⟨Nat.le_refl _, fun x h => by cases h⟩
  | y :: ys, m => by
    obtain ⟨h1, h2⟩ := foldl_max_le ys (max m y)
    refine ⟨Nat.le_trans (Nat.le_max_left ..) h1, fun x hx => ?_⟩
    rcases List.mem_cons.mp hx with rfl | hx
    · exact Nat.le_trans (Nat.le_max_right ..) h1
    · exact h2 x hx
theorem foldl_max_lt {K : Nat} : ∀ (xs : List Nat) (m : Nat), m ≤ K → (∀ x ∈ xs, x ≤ K) → xs.foldl max m ≤ K
  | [], m, h, _ => h
  | y :: ys, m, h, hx => foldl_max_lt ys (max m y) (Nat.max_le.mpr ⟨h, hx y (List.mem_cons_self ..)⟩) fun x q => hx x (List.mem_cons_of_mem _ q)
theorem lines_ge {O : List Stg} {s : Stg} (h : s ∈ O) : s.2.length ≤ linesOf O := (foldl_max_le _ 0).2 _ (List.mem_map.mpr ⟨s, h, rfl⟩)
theorem lines_le {O : List Stg} {K : Nat} (h : ∀ s ∈ O, s.2.length ≤ K) : linesOf O ≤ K := foldl_max_lt _ 0 (Nat.zero_le _) fun x hx => by
  obtain ⟨s, hs, rfl⟩ := List.mem_map.mp hx
  exact h s hs
/-- what a look at a table tells -/
structure Look (t : Tb) (U O : List Stg) (fs : List Stg) (told : List (Nat × List Nat)) : Prop where
  st : ∃ R, stagesF t 2000 [(0, [])] [] = some (O, R) ∧ StR t U O R ∧ O.length = R.length
  law : ∀ lk : Stg → Stg → Bool, (∀ a ∈ O, ∀ b ∈ O, (lk a b = true ↔ ¬ Un (gT t) a b)) → lawG (gT t) lk 2000 [(0, [])] [] = some (fs, told)
  len : told.length = fs.length
  few : fs.length ≤ O.length
  sub : ∀ s ∈ fs, s ∈ O
  plain : fs.length ≤ 64 → plainF t = some (mkT (linesOf O) told)
  num : ∃ nu : Stg → Nat, told = fs.map (fun s => ((gT t).pl s, ((gT t).go s).map nu)) ∧ nu (0, []) = 0 ∧ 0 < fs.length ∧ (∀ s ∈ fs, ∀ x ∈ (gT t).go s, nu x < fs.length) ∧
    (∀ a ∈ O, ∀ b ∈ O, ¬ Un (gT t) a b → nu a = nu b) ∧ ∀ s ∈ O, nu s < fs.length → ∃ f, fs[nu s]? = some f ∧ f ∈ O ∧ ¬ Un (gT t) s f
theorem lawG_wd {α : Type} {g : Gr α} {lk lk' : α → α → Bool} : lk = lk' → ∀ f fs told, lawG g lk f fs told = lawG g lk' f fs told := fun h _ _ _ => by rw [h]
theorem look {t : Tb} {U : List Stg} (C : Clo t U) (hU : U.length ≤ 400) (h16 : ∀ s ∈ U, s.2.length ≤ 16) : ∃ O fs told, Look t U O fs told := by
  obtain ⟨O, R, hS, h, hl⟩ := stages_at C (by omega)
  obtain ⟨cls, hC, lc, hcl⟩ := classes_are C hU h hl
  have ok := okR2_of C (by omega) h hl
  have hO := nd_len h.nd h.sub
  have pos : 1 ≤ R.length := by have := (List.getElem?_eq_some_iff.mp h.first).1; omega
  obtain ⟨ord, f1, f2, f3, f4, f5, ys, f6⟩ := firsts_ok (cls := cls) ok 2000 [0] [] (by simp) (fun s hs => by rw [List.mem_singleton.mp hs]; omega) (by simp) (by simp; omega) rfl (fun s hs => by simp at hs)
  have lenO : ord.length ≤ R.length := by
    have := nd_len (xs := ord) (ys := List.range R.length) f3 fun s h => List.mem_range.mpr (f4 s h)
    rw [List.length_range] at this; exact this
  have s0 : sO O 0 = (0, []) := by
    have := h.first
    rw [sO_at (by omega)] at this
    exact Option.some.inj this
  refine ⟨O, ord.map (sO O), ord.map (rowT cls ord R), ⟨R, hS, h, hl⟩, fun lk hlk => ?_, by simp, by rw [List.length_map]; omega, fun s hs => ?_, fun h64 => ?_, ?_⟩
  · have e := lawG_hom (stg_hom h hl) (lk := lkc cls) (lk' := lk) (fun a b ha hb => ?_) (f := 2000) (fs := [0]) (told := []) fun f hf => by rw [List.mem_singleton.mp hf]; omega
    · rw [f2] at e
      rw [List.map_cons, List.map_nil, s0] at e
      exact e
    · have m1 := hlk _ (List.mem_of_getElem? (sO_at (O := O) (by omega : a < O.length))) _ (List.mem_of_getElem? (sO_at (O := O) (by omega : b < O.length)))
      rw [Bool.eq_iff_iff, m1, ← hcl a b ha hb]
      unfold lkc
      rw [decide_eq_true_iff]
      exact eq_comm
  · obtain ⟨i, hi, rfl⟩ := List.mem_map.mp hs
    exact List.mem_of_getElem? (sO_at (by have := f4 i hi; omega))
  · rw [List.length_map] at h64
    have lw : ∀ i, i < R.length → (rR R i).2.2.length ≤ linesOf O := fun i hi => by
      rw [(row_is h hl hi).2]
      dsimp only
      rw [List.length_map, hits_len]
      exact lines_ge (List.mem_of_getElem? (sO_at (by omega)))
    have get : ∀ w ∈ R, ∃ i, i < R.length ∧ rR R i = w := fun w hw => by
      obtain ⟨i, e⟩ := List.getElem?_of_mem hw
      have hi := (List.getElem?_eq_some_iff.mp e).1
      rw [rR_at hi] at e
      exact ⟨i, hi, Option.some.inj e⟩
    have all : okAll O R cls ord = true := by
      unfold okAll
      simp only [Bool.and_eq_true, decide_eq_true_eq, List.all_eq_true]
      refine ⟨⟨⟨⟨⟨⟨hl, ok.few⟩, pos⟩, h64⟩, lines_le fun s hs => h16 s (h.sub s hs)⟩, fun w hw => ?_⟩, fun ix hix => ⟨⟨f4 ix hix, f5 ix hix _ (List.mem_cons_self ..)⟩, fun g hg => f5 ix hix g (List.mem_cons_of_mem _ hg)⟩⟩
      obtain ⟨i, hi, rfl⟩ := get w hw
      exact ⟨⟨ok.after _ hw, lw i hi⟩, (ok.hits _ hw).2⟩
    unfold plainF
    rw [hS]
    dsimp only
    rw [hC]
    dsimp only
    have f1' : firstsF cls R 2000 0 [0] = some ord := f1
    rw [f1']
    dsimp only
    rw [if_pos all]
    unfold mkT
    congr 2
    rw [List.zipIdx_map, List.map_map]
    refine List.map_congr_left fun p hp => ?_
    show pRow cls ord R (linesOf O) p.1 p.2 = mkRow (linesOf O) (rowT cls ord R p.1, p.2)
    unfold pRow mkRow rowT
    simp only [List.map_cons, List.headD_cons, List.tail_cons, List.length_cons, List.length_map, Nat.add_sub_add_right]
  · have hom := stg_hom h hl
    have back : ∀ g, g < R.length → ixOf (sO O g) O = g := fun g hg => by
      have h1 := ix_mem (List.mem_of_getElem? (sO_at (O := O) (by omega : g < O.length)))
      obtain ⟨i1, e1⟩ := List.getElem?_eq_some_iff.mp h1
      obtain ⟨i2, e2⟩ := List.getElem?_eq_some_iff.mp (sO_at (O := O) (by omega : g < O.length))
      exact (List.getElem_inj h.nd).mp (e1.trans e2.symm)
    have ixN : ∀ s ∈ O, ixOf s O < R.length := fun s hs => by rw [← hl]; exact ix_lt hs
    refine ⟨fun s => numOf cls ord (ixOf s O), ?_, ?_, ?_, fun s hs x hx => ?_, fun a ha b hb n => ?_, fun s hs hlt => ?_⟩
    · rw [List.map_map]
      refine List.map_congr_left fun i hi => ?_
      have hiN := f4 i hi
      show rowT cls ord R i = ((gT t).pl (sO O i), ((gT t).go (sO O i)).map fun s => numOf cls ord (ixOf s O))
      rw [hom.pl i hiN, hom.go i hiN, List.map_map]
      refine Prod.ext rfl (List.map_congr_left fun g hg => ?_)
      show numOf cls ord g = numOf cls ord (ixOf (sO O g) O)
      rw [back g (hom.on i hiN g hg)]
    · show numOf cls ord (ixOf (0, []) O) = 0
      rw [← s0, back 0 (by omega), f6]
      show (if cl cls 0 = cl cls 0 then 0 else _) = 0
      rw [if_pos rfl]
    · rw [List.length_map, f6]; simp
    · obtain ⟨i, hi, rfl⟩ := List.mem_map.mp hs
      have hiN := f4 i hi
      rw [hom.go i hiN] at hx
      obtain ⟨g, hg, rfl⟩ := List.mem_map.mp hx
      show numOf cls ord (ixOf (sO O g) O) < _
      rw [back g (hom.on i hiN g hg), List.length_map]
      have := ix_lt (f5 i hi g hg)
      rw [List.length_map] at this
      exact this
    · have e := (hcl _ _ (ixN a ha) (ixN b hb)).mpr (by rw [ix_back ha, ix_back hb]; exact n)
      show numOf cls ord (ixOf a O) = numOf cls ord (ixOf b O)
      unfold numOf
      rw [e]
    · rw [List.length_map] at hlt
      have hlt' : numOf cls ord (ixOf s O) < ord.length := hlt
      have hm : cl cls (ixOf s O) ∈ ord.map (cl cls) := by
        refine Classical.byContradiction fun no => ?_
        have : numOf cls ord (ixOf s O) = ord.length := by
          unfold numOf
          rw [ix_not no, List.length_map]
        omega
      have e := ix_mem hm
      rw [List.getElem?_map] at e
      cases q : ord[ixOf (cl cls (ixOf s O)) (ord.map (cl cls))]? with
      | none => rw [q] at e; cases e
      | some j =>
        rw [q] at e
        have ej : cl cls j = cl cls (ixOf s O) := Option.some.inj e
        have hj := f4 j (List.mem_of_getElem? q)
        refine ⟨sO O j, ?_, List.mem_of_getElem? (sO_at (by omega)), ?_⟩
        · rw [List.getElem?_map]
          show (ord[ixOf (cl cls (ixOf s O)) (ord.map (cl cls))]?).map _ = _
          rw [q]; rfl
        · have := (hcl _ _ (ixN s hs) hj).mp ej.symm
          rw [ix_back hs] at this
          exact this
end L55

/-! text I6_55 -/
namespace L55
open PySem L2 PySem.Spec PyProof.Rows Zl
/-! ## the plain form of a plain form -/
theorem idx_range {v : Nat} : ∀ {n : Nat}, v < n → (List.range n).idxOf v = v
  | n + 1, h => by
    rw [List.range_succ, List.idxOf_append]
    by_cases hv : v < n
    · rw [if_pos (List.mem_range.mpr hv), idx_range hv]
    · have : v = n := by omega
      subst this
      rw [if_neg (by simp)]
      simp
theorem go_len {t : Tb} {s : Stg} : ((gT t).go s).length = s.2.length + 1 := by
  show ((afterMiss t s).2 :: afterHits t s).length = _
  rw [List.length_cons, hits_len]
theorem go_same {t : Tb} {O : List Stg} {nu : Stg → Nat} (on : ∀ s ∈ O, ∀ x ∈ (gT t).go s, x ∈ O) (n5 : ∀ a ∈ O, ∀ b ∈ O, ¬ Un (gT t) a b → nu a = nu b) {s f : Stg} (hs : s ∈ O) (hf : f ∈ O) (h : ¬ Un (gT t) s f) :
    s.2.length = f.2.length ∧ (gT t).pl s = (gT t).pl f ∧ ((gT t).go s).map nu = ((gT t).go f).map nu := by
  have a1 : s.2.length = f.2.length := Classical.byContradiction fun q => h (.base (.inl q))
  have a2 : (gT t).pl s = (gT t).pl f := Classical.byContradiction fun q => h (.base (.inr q))
  refine ⟨a1, a2, List.ext_getElem (by rw [List.length_map, List.length_map, go_len, go_len, a1]) fun i h1 h2 => ?_⟩
  rw [List.getElem_map, List.getElem_map]
  rw [List.length_map] at h1 h2
  have q1 : ((gT t).go s)[i]? = some ((gT t).go s)[i] := List.getElem?_eq_getElem h1
  have q2 : ((gT t).go f)[i]? = some ((gT t).go f)[i] := List.getElem?_eq_getElem h2
  exact n5 _ (on s hs _ (List.mem_of_getElem? q1)) _ (on f hf _ (List.mem_of_getElem? q2)) fun u => h (.step (mem_zip_iff.mpr ⟨i, q1, q2⟩) u)
theorem miss_len {t : Tb} {s : Stg} : ((afterMiss t s).1 < s.2.length ∧ (afterMiss t s).2.2 = s.2) ∨ ((afterMiss t s).1 = s.2.length ∧ (afterMiss t s).2.2.length = s.2.length + 1) := by
  unfold afterMiss
  split
  · rename_i h
    exact .inl ⟨List.idxOf_lt_length_of_mem h, rfl⟩
  · exact .inr ⟨rfl, by simp⟩
theorem again {t : Tb} {U O fs : List Stg} {told : List (Nat × List Nat)} (L : Look t U O fs told) (h64 : fs.length ≤ 64) (hO : O.length ≤ 400) (h4 : ∀ s ∈ O, s.2.length ≤ 4) :
    OkT (mkT (linesOf O) told) ∧ plainF (mkT (linesOf O) told) = some (mkT (linesOf O) told) := by
  obtain ⟨R, hS, h, hl⟩ := L.st
  obtain ⟨nu, n1, n2, n3, n4, n5, n6⟩ := L.num
  have on : ∀ s ∈ O, ∀ x ∈ (gT t).go s, x ∈ O := fun s hs x hx => by
    obtain ⟨i, e⟩ := List.getElem?_of_mem hs
    exact (h.row i s (by have := (List.getElem?_eq_some_iff.mp e).1; omega) e).1 x hx
  have zero : (0, []) ∈ O := List.mem_of_getElem? h.first
  have known' : ∀ s, Rch t s → s ∈ O ∧ nu s < fs.length := fun s r => by
    induction r with
    | first => exact ⟨zero, by rw [n2]; exact n3⟩
    | @go s x _ hx ih =>
      obtain ⟨hs, hn⟩ := ih
      refine ⟨on s hs x hx, ?_⟩
      obtain ⟨f, f1, f2, f3⟩ := n6 s hs hn
      obtain ⟨_, _, e⟩ := go_same on n5 hs f2 f3
      have hm : nu x ∈ ((gT t).go f).map nu := by rw [← e]; exact List.mem_map.mpr ⟨x, hx, rfl⟩
      obtain ⟨y, hy, q⟩ := List.mem_map.mp hm
      rw [← q]
      exact n4 f (List.mem_of_getElem? f1) y hy
  have known : ∀ s ∈ O, nu s < fs.length := fun s hs => (known' s (h.rch s hs)).2
  have lr : (mkT (linesOf O) told).rows.length = fs.length := by
    show (told.zipIdx.map (mkRow (linesOf O))).length = _
    rw [List.length_map, List.length_zipIdx, L.len]
  have rowk : ∀ k f, fs[k]? = some f → (mkT (linesOf O) told).rows[k]? = some (mkRow (linesOf O) (((gT t).pl f, ((gT t).go f).map nu), k)) := fun k f e => by
    show (told.zipIdx.map (mkRow (linesOf O)))[k]? = _
    rw [List.getElem?_map, List.getElem?_zipIdx, n1, List.getElem?_map, e]
    simp
  have rwS : ∀ s ∈ O, rwOf (mkT (linesOf O) told) (nu s) = mkRow (linesOf O) (((gT t).pl s, ((gT t).go s).map nu), nu s) := fun s hs => by
    obtain ⟨f, f1, f2, f3⟩ := n6 s hs (known s hs)
    obtain ⟨e1, e2, e3⟩ := go_same on n5 hs f2 f3
    have e := rowk _ f f1
    rw [rw_at (by rw [lr]; exact known s hs)] at e
    rw [Option.some.inj e, e2, e3]
  have l4 : linesOf O ≤ 4 := lines_le h4
  have plt : ∀ s ∈ O, (gT t).pl s < linesOf O := fun s hs => by
    have g := lines_ge hs
    have g2 := lines_ge (on s hs _ (List.mem_cons_self ..) : (afterMiss t s).2 ∈ O)
    show (afterMiss t s).1 < _
    rcases miss_len (t := t) (s := s) with ⟨q, _⟩ | ⟨q1, q2⟩ <;> omega
  have okr : ∀ k f, fs[k]? = some f → OkR (linesOf O) fs.length (mkRow (linesOf O) (((gT t).pl f, ((gT t).go f).map nu), k)) := fun k f e => by
    have hf := L.sub f (List.mem_of_getElem? e)
    have kl := (List.getElem?_eq_some_iff.mp e).1
    have g := lines_ge hf
    have gl := go_len (t := t) (s := f)
    have nums : ∀ x ∈ (gT t).go f, nu x < fs.length := fun x hx => known x (on f hf x hx)
    refine ⟨plt f hf, nums _ (List.mem_cons_self ..), ?_, fun x hx => ?_⟩
    · show ((((gT t).go f).map nu).tail ++ List.replicate (linesOf O + 1 - (((gT t).go f).map nu).length) k).length = _
      rw [List.length_append, List.length_tail, List.length_map, List.length_replicate, gl]
      omega
    · have hx' : x ∈ (((gT t).go f).map nu).tail ++ List.replicate (linesOf O + 1 - (((gT t).go f).map nu).length) k := hx
      rcases List.mem_append.mp hx' with q | q
      · obtain ⟨y, hy, rfl⟩ := List.mem_map.mp (List.mem_of_mem_tail q)
        exact nums y hy
      · rw [(List.mem_replicate.mp q).2]; exact kl
  have okT : OkT (mkT (linesOf O) told) := by
    refine ⟨by have := plt _ zero; show 1 ≤ linesOf O; omega, l4, by rw [lr]; exact n3, by rw [lr]; exact h64, fun r hr => ?_⟩
    obtain ⟨k, e⟩ := List.getElem?_of_mem hr
    have kl := (List.getElem?_eq_some_iff.mp e).1
    rw [lr] at kl
    have e2 := rowk k _ (List.getElem?_eq_getElem kl)
    rw [e] at e2
    rw [Option.some.inj e2, lr]
    exact okr k _ (List.getElem?_eq_getElem kl)
  refine ⟨okT, ?_⟩
  let φ : Stg → Stg := fun s => (nu s, List.range s.2.length)
  have hom : Hom (gT t) (gT (mkT (linesOf O) told)) φ (· ∈ O) := by
    refine ⟨on, fun s hs => ?_, fun s hs => by show (List.range s.2.length).length = s.2.length; rw [List.length_range], fun s hs => ?_⟩
    · show (afterMiss (mkT (linesOf O) told) (nu s, List.range s.2.length)).1 = (afterMiss t s).1
      unfold afterMiss
      dsimp only
      rw [rwS s hs]
      show (if (afterMiss t s).1 ∈ List.range s.2.length then ((List.range s.2.length).idxOf (afterMiss t s).1, _) else ((List.range s.2.length).length, _)).1 = (afterMiss t s).1
      rcases miss_len (t := t) (s := s) with ⟨q, _⟩ | ⟨q1, q2⟩
      · rw [if_pos (List.mem_range.mpr q)]
        exact idx_range q
      · rw [if_neg (by rw [List.mem_range]; omega)]
        show (List.range s.2.length).length = _
        rw [List.length_range, q1]
    · have gl := go_len (t := t) (s := s)
      show (afterMiss (mkT (linesOf O) told) (nu s, List.range s.2.length)).2 :: afterHits (mkT (linesOf O) told) (nu s, List.range s.2.length) = φ (afterMiss t s).2 :: (afterHits t s).map φ
      congr 1
      · unfold afterMiss
        dsimp only
        rw [rwS s hs]
        show (if (afterMiss t s).1 ∈ List.range s.2.length then (_, (nu (afterMiss t s).2, List.range s.2.length)) else (_, (nu (afterMiss t s).2, List.range s.2.length ++ [(afterMiss t s).1]))).2 = (nu (afterMiss t s).2, List.range (afterMiss t s).2.2.length)
        rcases miss_len (t := t) (s := s) with ⟨q, q2⟩ | ⟨q1, q2⟩
        · rw [if_pos (List.mem_range.mpr q), q2]
        · rw [if_neg (by rw [List.mem_range]; omega), q2, q1, List.range_succ]
      · unfold afterHits
        dsimp only
        rw [rwS s hs]
        refine List.ext_getElem (by simp) fun i h1 h2 => ?_
        rw [List.length_map, List.length_range] at h1
        rw [List.getElem_map, List.getElem_map, List.getElem_map, List.getElem_range]
        show (((((gT t).go s).map nu).tail ++ List.replicate (linesOf O + 1 - (((gT t).go s).map nu).length) (nu s)).getD i 0, List.range s.2.length) = (nu _, List.range s.2.length)
        refine Prod.ext ?_ rfl
        dsimp only
        refine getD_of ?_
        have et : (((gT t).go s).map nu).tail = (afterHits t s).map nu := rfl
        rw [et, List.getElem?_append_left (by rw [List.length_map, hits_len]; exact h1), List.getElem?_map]
        unfold afterHits
        rw [List.getElem?_map, List.getElem?_eq_getElem h1]
        rfl
  have φ0 : φ (0, []) = (0, []) := by show (nu (0, []), List.range 0) = _; rw [n2]; rfl
  have C' : Clo (mkT (linesOf O) told) (O.map φ) := by
    refine ⟨List.mem_map.mpr ⟨_, zero, φ0⟩, fun s' hs' => ?_, fun s' hs' x hx => ?_⟩
    · obtain ⟨s, hs, rfl⟩ := List.mem_map.mp hs'
      unfold stgOk
      simp only [Bool.and_eq_true, decide_eq_true_eq, List.all_eq_true]
      have g := lines_ge hs
      refine ⟨⟨by rw [lr]; exact known s hs, by show (List.range s.2.length).length ≤ 100; rw [List.length_range]; omega⟩, fun x hx => ?_⟩
      have : x < s.2.length := List.mem_range.mp hx
      show x < linesOf O
      omega
    · obtain ⟨s, hs, rfl⟩ := List.mem_map.mp hs'
      rw [hom.go s hs] at hx
      obtain ⟨y, hy, rfl⟩ := List.mem_map.mp hx
      exact List.mem_map.mpr ⟨y, on s hs y hy, rfl⟩
  obtain ⟨O', fs', told', L'⟩ := look C' (by rw [List.length_map]; exact hO) fun s' hs' => by
    obtain ⟨s, hs, rfl⟩ := List.mem_map.mp hs'
    show (List.range s.2.length).length ≤ 16
    rw [List.length_range]
    have := h4 s hs; omega
  obtain ⟨R', hS', h', hl'⟩ := L'.st
  have on' : ∀ s ∈ O', ∀ x ∈ (gT (mkT (linesOf O) told)).go s, x ∈ O' := fun s hs x hx => by
    obtain ⟨i, e⟩ := List.getElem?_of_mem hs
    exact (h'.row i s (by have := (List.getElem?_eq_some_iff.mp e).1; omega) e).1 x hx
  have img : ∀ s, Rch t s → s ∈ O ∧ φ s ∈ O' := fun s r => by
    induction r with
    | first => exact ⟨zero, by rw [φ0]; exact List.mem_of_getElem? h'.first⟩
    | @go s x _ hx ih =>
      obtain ⟨hs, hn⟩ := ih
      refine ⟨on s hs x hx, on' _ hn _ ?_⟩
      rw [hom.go s hs]
      exact List.mem_map.mpr ⟨x, hx, rfl⟩
  have le : linesOf O' = linesOf O := by
    refine Nat.le_antisymm (lines_le fun s' hs' => ?_) (lines_le fun s hs => ?_)
    · obtain ⟨s, hs, rfl⟩ := List.mem_map.mp (h'.sub s' hs')
      show (List.range s.2.length).length ≤ _
      rw [List.length_range]; exact lines_ge hs
    · have := lines_ge (img s (h.rch s hs)).2
      have e : (φ s).2.length = s.2.length := List.length_range
      omega
  have dec : ∀ p : Prop, ∃ b : Bool, b = true ↔ p := fun p => by
    by_cases hp : p
    · exact ⟨true, by simp [hp]⟩
    · exact ⟨false, by simp [hp]⟩
  let lk : Stg → Stg → Bool := fun a b => Classical.choose (dec (¬ Un (gT t) a b))
  let lk' : Stg → Stg → Bool := fun a b => Classical.choose (dec (¬ Un (gT (mkT (linesOf O) told)) a b))
  have s1 : ∀ a b, lk a b = true ↔ ¬ Un (gT t) a b := fun a b => Classical.choose_spec (dec _)
  have s2 : ∀ a b, lk' a b = true ↔ ¬ Un (gT (mkT (linesOf O) told)) a b := fun a b => Classical.choose_spec (dec _)
  have e1 := L.law lk fun a _ b _ => s1 a b
  have e2 := L'.law lk' fun a _ b _ => s2 a b
  have e3 := lawG_hom hom (lk := lk) (lk' := lk') (fun a b ha hb => by rw [Bool.eq_iff_iff, s1, s2, un_hom hom ha hb]) (f := 2000) (fs := [(0, [])]) (told := []) fun f hf => by rw [List.mem_singleton.mp hf]; exact zero
  rw [List.map_cons, List.map_nil, φ0, e2, e1] at e3
  have e4 := Prod.mk.inj (Option.some.inj e3)
  have e5 : fs'.length = fs.length := by rw [e4.1, List.length_map]
  rw [L'.plain (by rw [e5]; exact h64), le, e4.2]
end L55

/-! text I7_55 -/
namespace L55
open PySem L2 PySem.Spec PyProof.Rows Zl
/-! ## small tables have few stages -/
def seqs (a x y : Nat) : List (List Nat) := [[a], [a, x], [a, y], [a, x, y], [a, y, x]]
def fewU (n a x y : Nat) : List Stg := (0, []) :: (List.range n).flatMap fun s => (seqs a x y).map fun f => (s, f)
theorem mem_fewU {n a x y : Nat} {s : Stg} : s ∈ fewU n a x y ↔ s = (0, []) ∨ s.1 < n ∧ s.2 ∈ seqs a x y := by
  unfold fewU
  rw [List.mem_cons, List.mem_flatMap]
  refine or_congr Iff.rfl ⟨fun ⟨i, hi, hs⟩ => ?_, fun ⟨h1, h2⟩ => ⟨s.1, List.mem_range.mpr h1, List.mem_map.mpr ⟨s.2, h2, rfl⟩⟩⟩
  obtain ⟨f, hf, rfl⟩ := List.mem_map.mp hs
  exact ⟨List.mem_range.mp hi, hf⟩
theorem fewU_len (a x y : Nat) : ∀ n, (fewU n a x y).length = 1 + 5 * n := fun n => by
  unfold fewU
  rw [List.length_cons]
  induction n with
  | zero => rfl
  | succ n ih =>
    rw [List.range_succ, List.flatMap_append, List.length_append]
    simp only [List.flatMap_cons, List.flatMap_nil, List.append_nil, List.length_map]
    have : (seqs a x y).length = 5 := rfl
    omega
theorem seq_lt {a x y l : Nat} (ha : a < l) (hx : x < l) (hy : y < l) {f : List Nat} (h : f ∈ seqs a x y) : f.length ≤ 3 ∧ ∀ v ∈ f, v < l := by
  simp only [seqs, List.mem_cons, List.not_mem_nil, or_false] at h
  rcases h with rfl | rfl | rfl | rfl | rfl <;> refine ⟨by simp, fun v hv => ?_⟩ <;> simp only [List.mem_cons, List.not_mem_nil, or_false] at hv <;> omega
theorem few_clo {t : Tb} (ht : OkT t) {x y : Nat} (hx : x < t.l) (hy : y < t.l) (hv : ∀ i, i < t.rows.length → (rwOf t i).v = (rwOf t 0).v ∨ (rwOf t i).v = x ∨ (rwOf t i).v = y) : Clo t (fewU t.rows.length (rwOf t 0).v x y) := by
  have row : ∀ i, i < t.rows.length → OkR t.l t.rows.length (rwOf t i) := fun i hi => ht.ok _ (List.mem_of_getElem? (rw_at hi))
  have r1 := ht.r1
  have ha : (rwOf t 0).v < t.l := (row 0 (by omega)).1
  refine ⟨mem_fewU.mpr (.inl rfl), fun s hs => ?_, fun s hs z hz => ?_⟩
  · unfold stgOk
    simp only [Bool.and_eq_true, decide_eq_true_eq, List.all_eq_true]
    rcases mem_fewU.mp hs with rfl | ⟨h1, h2⟩
    · exact ⟨⟨by omega, by simp⟩, fun v hv => by cases hv⟩
    · obtain ⟨q1, q2⟩ := seq_lt ha hx hy h2
      exact ⟨⟨h1, by omega⟩, q2⟩
  · rcases mem_fewU.mp hs with rfl | ⟨h1, h2⟩
    · have e : z = ((rwOf t 0).s, [(rwOf t 0).v]) := by
        have hz' : z ∈ (afterMiss t (0, [])).2 :: afterHits t (0, []) := hz
        have e1 : afterMiss t (0, []) = (0, ((rwOf t 0).s, [(rwOf t 0).v])) := by unfold afterMiss; rfl
        have e2 : afterHits t (0, []) = [] := rfl
        rw [e1, e2] at hz'
        simpa using hz'
      subst e
      exact mem_fewU.mpr (.inr ⟨(row 0 (by omega)).2.1, by simp [seqs]⟩)
    · obtain ⟨i, f⟩ := s
      have h1' : i < t.rows.length := h1
      have h2' : f ∈ seqs (rwOf t 0).v x y := h2
      have ri := row i h1'
      have hz' : z ∈ (afterMiss t (i, f)).2 :: afterHits t (i, f) := hz
      rcases List.mem_cons.mp hz' with rfl | hz'
      · unfold afterMiss
        dsimp only
        split
        · exact mem_fewU.mpr (.inr ⟨ri.2.1, h2'⟩)
        · rename_i hn
          refine mem_fewU.mpr (.inr ⟨ri.2.1, ?_⟩)
          show f ++ [(rwOf t i).v] ∈ seqs (rwOf t 0).v x y
          have hv' := hv i h1'
          clear hv hz hs row ha ri hz'
          generalize (rwOf t i).v = v at hn hv' ⊢
          generalize (rwOf t 0).v = a at h2' hv' ⊢
          simp only [seqs, List.mem_cons, List.not_mem_nil, or_false] at h2' ⊢
          rcases h2' with rfl | rfl | rfl | rfl | rfl <;> simp only [List.mem_cons, List.not_mem_nil, or_false, not_or] at hn <;> rcases hv' with rfl | rfl | rfl <;> simp_all
      · obtain ⟨v, hv2, rfl⟩ := List.mem_map.mp hz'
        refine mem_fewU.mpr (.inr ⟨?_, h2'⟩)
        obtain ⟨q1, q2⟩ := seq_lt ha hx hy h2'
        have hl := q2 v hv2
        rw [← ri.2.2.1] at hl
        show (rwOf t i).hits.getD v 0 < _
        refine ri.2.2.2 _ ?_
        rw [List.getD_eq_getElem?_getD, List.getElem?_eq_getElem hl]
        exact List.getElem_mem hl
/-- the tables of the law -/
def Small (t : Tb) : Prop := OkT t ∧ (t.l ≤ 3 ∧ t.rows.length ≤ 12 ∨ t.rows.length ≤ 3)
theorem small_clo {t : Tb} (h : Small t) : ∃ U, Clo t U ∧ U.length ≤ 61 ∧ ∀ s ∈ U, s.2.length ≤ 3 := by
  obtain ⟨ht, hs⟩ := h
  have row : ∀ i, i < t.rows.length → (rwOf t i).v < t.l := fun i hi => (ht.ok _ (List.mem_of_getElem? (rw_at hi))).1
  have r1 := ht.r1
  have l1 := ht.l1
  have a := row 0 (by omega)
  have get : ∃ x y, x < t.l ∧ y < t.l ∧ ∀ i, i < t.rows.length → (rwOf t i).v = (rwOf t 0).v ∨ (rwOf t i).v = x ∨ (rwOf t i).v = y := by
    rcases hs with ⟨h3, _⟩ | h3
    · have e : t.l = 1 ∨ t.l = 2 ∨ t.l = 3 := by omega
      rcases e with e | e | e
      · exact ⟨0, 0, by omega, by omega, fun i hi => by have := row i hi; omega⟩
      · exact ⟨1 - (rwOf t 0).v, 1 - (rwOf t 0).v, by omega, by omega, fun i hi => by have := row i hi; omega⟩
      · refine ⟨((rwOf t 0).v + 1) % 3, ((rwOf t 0).v + 2) % 3, by omega, by omega, fun i hi => by have := row i hi; omega⟩
    · by_cases e2 : t.rows.length = 1
      · exact ⟨(rwOf t 0).v, (rwOf t 0).v, a, a, fun i hi => .inl (by rw [show i = 0 by omega])⟩
      · have b := row 1 (by omega)
        by_cases e3 : t.rows.length = 2
        · refine ⟨(rwOf t 1).v, (rwOf t 1).v, b, b, fun i hi => ?_⟩
          have : i = 0 ∨ i = 1 := by omega
          rcases this with rfl | rfl
          · exact .inl rfl
          · exact .inr (.inl rfl)
        · refine ⟨(rwOf t 1).v, (rwOf t 2).v, b, row 2 (by omega), fun i hi => ?_⟩
          have : i = 0 ∨ i = 1 ∨ i = 2 := by omega
          rcases this with rfl | rfl | rfl
          · exact .inl rfl
          · exact .inr (.inl rfl)
          · exact .inr (.inr rfl)
  obtain ⟨x, y, hx, hy, hv⟩ := get
  refine ⟨_, few_clo ht hx hy hv, by rw [fewU_len]; omega, fun s hs => ?_⟩
  rcases mem_fewU.mp hs with rfl | ⟨_, h2⟩
  · simp
  · exact (seq_lt a hx hy h2).1
theorem small_look {t : Tb} (h : Small t) : ∃ U O fs told, Look t U O fs told ∧ O.length ≤ 61 ∧ (∀ s ∈ O, s.2.length ≤ 3 ∧ s.1 < t.rows.length ∧ ∀ v ∈ s.2, v < t.l) ∧ OkT (mkT (linesOf O) told) ∧ plainF t = some (mkT (linesOf O) told) ∧ plainF (mkT (linesOf O) told) = some (mkT (linesOf O) told) := by
  obtain ⟨U, C, h1, h2⟩ := small_clo h
  obtain ⟨O, fs, told, L⟩ := look C (by omega) fun s hs => by have := h2 s hs; omega
  obtain ⟨R, hS, hR, hl⟩ := L.st
  have hO := nd_len hR.nd hR.sub
  have few := L.few
  obtain ⟨a1, a2⟩ := again L (by omega) (by omega) fun s hs => by have := h2 s (hR.sub s hs); omega
  refine ⟨U, O, fs, told, L, by omega, fun s hs => ?_, a1, L.plain (by omega), a2⟩
  have ok := C.ok s (hR.sub s hs)
  unfold stgOk at ok
  simp only [Bool.and_eq_true, decide_eq_true_eq, List.all_eq_true] at ok
  exact ⟨h2 s (hR.sub s hs), ok.1.1, ok.2⟩
end L55

/-! text I8_55 -/
namespace L55
open PySem L2 PySem.Spec PyProof.Rows Zl
/-! ## the law's stages -/
def enV (v : Stg → Dv) (xs : List Stg) : List (NestedKey × Dv × Dv) := xs.map fun x => (stgK x, stgD x, v x)
theorem val_enV (v : Stg → Dv) (x : Stg) : ∀ xs : List Stg, valN (enV v xs) (stgK x) = if x ∈ xs then some (v x) else none
  | [] => rfl
  | y :: ys => by
    show valN ((stgK y, stgD y, v y) :: enV v ys) (stgK x) = _
    rw [val_cons, val_enV v x ys]
    by_cases h : y = x
    · subst h
      rw [if_pos rfl, if_pos (List.mem_cons_self ..)]
    · have h' : ¬ x = y := fun e => h e.symm
      rw [if_neg fun e => h (stg_inj _ _ e)]
      by_cases hm : x ∈ ys
      · rw [if_pos hm, if_pos (List.mem_cons_of_mem _ hm)]
      · rw [if_neg hm, if_neg (by simp [h', hm])]
theorem put_enV {v : Stg → Dv} {x : Stg} {xs : List Stg} (h : x ∉ xs) : putN (enV v xs) (stgK x) (stgD x) (v x) = enV v (xs ++ [x]) := by
  unfold putN
  rw [val_enV, if_neg h]
  show enV v xs ++ _ = _
  unfold enV
  rw [List.map_append]; rfl
theorem enV_len {v : Stg → Dv} {xs : List Stg} : (enV v xs).length = xs.length := by simp [enV]
theorem wq_extendL {n m : Nat} {xs ys : List Dv} {M : Mem} {q : QE} (hn : M[n]? = some (.lst xs)) (hm : M[m]? = some (.lst ys)) (h : xs.length + ys.length ≤ 16000000) (k : kWr n (.lst (xs ++ ys)) (fun M' => q .non M') M) : Wp (extendD (.loc n) [.loc m] M) q :=
  wp_extend hn hm (by omega) (k _ (at_set hn) (.set fun _ => rfl) (by simp))
def vR (t : Tb) (g : Stg → Nat) (s : Stg) : Dv := .tup [.int ((afterMiss t s).1 : Nat), .loc (g s)]
theorem set_enV {v : Stg → Dv} {f : Nat} {s : Stg} {xs : List Stg} {M : Mem} {Q : Mem → Prop} (hf : (xs = [] ∧ M[f]? = some (.dct [])) ∨ M[f]? = some (.dcn (enV v xs))) (hs : s ∉ xs) (hl : xs.length ≤ 100000)
    (h : ∀ M', M'[f]? = some (.dcn (enV v (xs ++ [s]))) → Kp (fun n => n = f) M M' → M'.length = M.length → Q M') : kSet (.loc f) (stgD s) (v s) Q M := by
  rcases hf with ⟨rfl, hf⟩ | hf
  · refine k_set0 hf (key_stg s) fun M' h1 h2 h3 => h M' ?_ h2 h3
    rw [h1]
    exact congrArg (fun z => some (Ob.dcn z)) (put_enV (v := v) (x := s) (xs := []) (by simp))
  · refine k_setDn hf (key_stg s) (by rw [enV_len]; omega) fun M' h1 h2 h3 => h M' ?_ h2 h3
    rw [h1, put_enV hs]
structure LwAt (t : Tb) (f n q : Nat) (g : Stg → Nat) (ord : List Stg) (k : Nat) (M : Mem) : Prop where
  hf : (k = 0 ∧ M[f]? = some (.dct [])) ∨ (0 < k ∧ M[f]? = some (.dcn (enV (vR t g) (ord.take k))))
  hn : M[n]? = some (.dcn (enV (fun _ => .bl true) ord))
  hq : M[q]? = some (.lst (ord.map stgD))
  hg : ∀ s ∈ ord.take k, q < g s ∧ M[g s]? = some (.lst (((gT t).go s).map stgD))
  fn : f < n
  nq : n < q
structure RowsAt (t : Tb) (O : List Stg) (f : Nat) (g : Stg → Nat) (M : Mem) : Prop where
  hf : M[f]? = some (.dcn (enV (vR t g) O))
  hg : ∀ s ∈ O, M[g s]? = some (.lst (((gT t).go s).map stgD))
theorem sp_stages {t : Tb} {M : Mem} {O : List Stg} {R : List SRow} (ht : OkT t) (hF : stagesF t 2000 [(0, [])] [] = some (O, R)) (hR : 1 ≤ R.length) :
    Wp (m__law_stages [tabD t] M) fun d M' => ∃ f g, d = .loc f ∧ RowsAt t O f g M' ∧ Kp NoW M M' := by
  refine wp_fn rfl [some (.tup [.int (t.l : Nat), .tup (t.rows.map rowD)]), none, none, none, none, none, none, none, none, none, none, none, none, none, none] rfl ?_
  unfold b__law_stages
  array_get_dec
  rename_i f M1 e1 g1 k1 l1
  refine wp_or1 ?_
  refine wq_dict1N ?_
  array_get_dec
  rename_i n M2 e2 g2 k2 l2
  refine ⟨_, g2, key_stg (0, []), ?_⟩
  array_get_dec
  rename_i M3 g3 k3 l3 q M4 e4 g4 k4 l4
  have lw0 : LwAt t f n q (fun _ => 0) [(0, [])] 0 M4 := ⟨.inl ⟨rfl, k4.at (k3.at (k2.at g1 id) (by show ¬ f = n; omega)) id⟩, k4.at g3 id, g4, fun s hs => by simp at hs, by omega, by omega⟩
  have kk0 : Kp NoW M M4 := ((k1.tr k2).trans k3 fun m hm e => by have e' : m = n := e; omega).tr k4
  refine wp_whileI (fun m env M' => ∃ (x6 x7 x8 x9 x10 x11 x12 x13 x14 : Option Dv) (ord : List Stg) (rows : List SRow) (g : Stg → Nat),
    env = [some (.tup [.int (t.l : Nat), .tup (t.rows.map rowD)]), some (stgD (0, [])), some (.loc f), some (.loc n), some (.loc q), some (.int (rows.length : Nat)), x6, x7, x8, x9, x10, x11, x12, x13, x14] ∧
    LwAt t f n q g ord rows.length M' ∧ stagesF t m ord rows = some (O, R) ∧ rows.length ≤ ord.length ∧ ord.Nodup ∧ Kp NoW M M') ?_ 1000000 2000 _ M4 (by omega)
    ⟨none, none, none, none, none, none, none, none, none, [(0, [])], [], fun _ => 0, rfl, lw0, hF, by simp, by simp, kk0⟩
  rintro m env M5 ⟨x6, x7, x8, x9, x10, x11, x12, x13, x14, ord, rows, g, rfl, lw, hm, le, nd, kk⟩
  have hq5 := lw.hq
  have hM5 := kk.1
  array_get_dec
  by_cases hl : rows.length < ord.length
  · rw [decide_eq_true (by rw [List.length_map]; exact_mod_cast hl)]
    refine (show Wp _ _ from ?_)
    cases m with
    | zero => cases hm
    | succ m =>
      obtain ⟨s, es, s1, s2, s3, s4, hm'⟩ := stg_get hm hl
      have es' : (ord.map stgD)[rows.length]? = some (.tup [.int (s.1 : Nat), .tup (intsN s.2)]) := by rw [List.getElem?_map, es]; rfl
      have hr : (t.rows.map rowD)[s.1]? = some (.tup [.int ((rwOf t s.1).v : Nat), .int ((rwOf t s.1).s : Nat), .tup (intsN (rwOf t s.1).hits)]) := by rw [List.getElem?_map, rw_at s1]; rfl
      have hM : ∀ {q : QE} {M6 : Mem}, (∀ b, b = decide ((rwOf t s.1).v ∈ s.2) → q (.bl b) M6) → Wp (inE false (.int ((rwOf t s.1).v : Nat)) (.tup (intsN s.2)) M6) q := fun h => by
        refine wp_inT (by unfold inE inD; simp only [flat_ints]; rfl) ?_
        rw [any_ints]
        exact h _ (by simp)
      array_get_dec
      refine hM fun b hb => ?_
      array_get_dec
      refine k_join (fun d M' => d = .int ((afterMiss t s).1 : Nat) ∧ M5 = M') (fun hb1 => ?_) (fun hb0 => ?_) ?_
      · have h : (rwOf t s.1).v ∈ s.2 := by rw [hb] at hb1; exact of_decide_eq_true hb1
        refine wp_or2 (noList rfl) ?_
        array_get_dec
        refine wp_ev (a := .int ((s.2.idxOf (rwOf t s.1).v : Nat) : Int)) (M' := M5) ?_ ?_
        · unfold tindexD
          simp only [flat_ints, idx_ints h]; rfl
        · unfold afterMiss
          rw [if_pos h]; exact ⟨rfl, rfl⟩
      · have h : ¬ (rwOf t s.1).v ∈ s.2 := by rw [hb] at hb0; exact of_decide_eq_false hb0
        array_get_dec
        unfold afterMiss
        rw [if_neg h]
        simp [intsN]
      rintro _ _ ⟨rfl, rfl⟩
      array_get_dec
      refine hM fun b hb => ?_
      array_get_dec
      refine k_join (fun d M' => d = .tup (intsN (afterMiss t s).2.2) ∧ M5 = M') (fun hb1 => ?_) (fun hb0 => ?_) ?_
      · have h : (rwOf t s.1).v ∈ s.2 := by rw [hb] at hb1; exact of_decide_eq_true hb1
        array_get_dec
        unfold afterMiss
        rw [if_pos h]; exact ⟨rfl, rfl⟩
      · have h : ¬ (rwOf t s.1).v ∈ s.2 := by rw [hb] at hb0; exact of_decide_eq_false hb0
        array_get_dec
        refine wq_addT (by unfold intsN; rw [List.length_map]; show _ + 1 ≤ _; omega) ?_
        unfold afterMiss
        rw [if_neg h]
        simp [intsN]
      rintro _ _ ⟨rfl, rfl⟩
      have em : (rwOf t s.1).s = (afterMiss t s).2.1 := by unfold afterMiss; split <;> rfl
      array_get_dec
      rename_i gl M6 e6 g6 k6 l6
      have hh := (ht.ok _ (List.mem_of_getElem? (rw_at s1))).2.2.1
      refine wq_map (fun x => match x with | .int i => stgD ((rwOf t s.1).hits.getD i.toNat 0, s.2) | _ => .non) ?_
      array_get_dec
      refine k_mapT (size_le (by unfold intsN; rw [List.length_map]; omega)) ?_ ?_
      · intro y hy M7 k7
        obtain ⟨x, hx', rfl⟩ := List.mem_map.mp hy
        have := s3 x hx'
        have e : (intsN (rwOf t s.1).hits)[x]? = some (.int (((rwOf t s.1).hits.getD x 0 : Nat) : Int)) := by
          refine ints_at ?_
          rw [List.getD_eq_getElem?_getD, List.getElem?_eq_getElem (by omega)]; rfl
        array_get_dec
        exact ⟨rfl, .refl⟩
      intro hl2 M7 e7 l7 k7 g7
      have g7' : M7[hl2]? = some (.lst ((afterHits t s).map stgD)) := by
        rw [g7]
        unfold afterHits intsN
        rw [List.map_map, List.map_map]
        rfl
      array_get_dec
      refine wq_extendL (k7.at g6 id) g7' (by rw [List.length_map, hits_len]; show 1 + _ ≤ _; omega) ?_
      array_get_dec
      rename_i M8 g8 k8 l8
      have g8' : M8[gl]? = some (.lst (((gT t).go s).map stgD)) := by rw [g8, em]; rfl
      have qlt := lt_of hq5
      have hfn := lw.fn
      have hnq := lw.nq
      have hq8 : M8[q]? = some (.lst (ord.map stgD)) := k8.at (k7.at (k6.at hq5 id) id) (by show ¬ q = gl; omega)
      have hn8 : M8[n]? = some (.dcn (enV (fun _ => .bl true) ord)) := k8.at (k7.at (k6.at lw.hn id) id) (by show ¬ n = gl; omega)
      have snew : s ∉ ord.take rows.length := fun hin => by
        obtain ⟨j, hj⟩ := List.getElem?_of_mem hin
        have jl : j < rows.length := by have := (List.getElem?_eq_some_iff.mp hj).1; rw [List.length_take] at this; omega
        rw [List.getElem?_take_of_lt jl] at hj
        obtain ⟨i1, q1⟩ := List.getElem?_eq_some_iff.mp hj
        obtain ⟨i2, q2⟩ := List.getElem?_eq_some_iff.mp es
        have := (List.getElem_inj nd).mp (q1.trans q2.symm)
        omega
      let g2 : Stg → Nat := fun x => if x = s then gl else g x
      have g2s : g2 s = gl := if_pos rfl
      have g2o : ∀ x ∈ ord.take rows.length, g2 x = g x := fun x hx => by
        have ne : ¬ x = s := fun e => snew (by rw [← e]; exact hx)
        show (if x = s then gl else g x) = g x
        rw [if_neg ne]
      have oldV : enV (vR t g) (ord.take rows.length) = enV (vR t g2) (ord.take rows.length) := by
        unfold enV
        refine List.map_congr_left fun x hx => ?_
        unfold vR
        rw [g2o x hx]
      have hf8 : (ord.take rows.length = [] ∧ M8[f]? = some (.dct [])) ∨ M8[f]? = some (.dcn (enV (vR t g2) (ord.take rows.length))) := by
        rcases lw.hf with ⟨k0, z⟩ | ⟨_, z⟩
        · exact .inl ⟨by rw [k0]; rfl, k8.at (k7.at (k6.at z id) id) (by show ¬ f = gl; omega)⟩
        · exact .inr (by rw [← oldV]; exact k8.at (k7.at (k6.at z id) id) (by show ¬ f = gl; omega))
      array_get_dec
      have ev : Dv.tup [.int ((afterMiss t s).1 : Nat), .loc gl] = vR t g2 s := by unfold vR; rw [g2s]
      rw [ev]
      refine set_enV hf8 snew (by rw [List.length_take]; omega) fun M9 g9 k9 l9 => ?_
      rw [← take_succ_of es] at g9
      have gl9 : M9[gl]? = some (.lst (((gT t).go s).map stgD)) := k9.at g8' (by show ¬ gl = f; omega)
      have hq9 : M9[q]? = some (.lst (ord.map stgD)) := k9.at hq8 (by show ¬ q = f; omega)
      have hn9 : M9[n]? = some (.dcn (enV (fun _ => .bl true) ord)) := k9.at hn8 (by show ¬ n = f; omega)
      have kk9 : Kp NoW M M9 := (((kk.tr k6).tr k7).trans k8 fun a ha e => by have e' : a = gl := e; omega).trans k9 fun a ha e => by have e' : a = f := e; omega
      array_get_dec
      refine wq_for (fun i env M' => ∃ x13 : Option Dv, env = [some (.tup [.int (t.l : Nat), .tup (t.rows.map rowD)]), some (stgD (0, [])), some (.loc f), some (.loc n), some (.loc q), some (.int (rows.length : Nat)), some (.int (s.1 : Nat)), some (.tup (intsN s.2)), some (.int ((rwOf t s.1).v : Nat)), some (.int ((rwOf t s.1).s : Nat)), some (.tup (intsN (rwOf t s.1).hits)), some (.int ((afterMiss t s).1 : Nat)), some (.loc gl), x13, x14] ∧
        M'[gl]? = some (.lst (((gT t).go s).map stgD)) ∧ M'[n]? = some (.dcn (enV (fun _ => .bl true) (places ord (((gT t).go s).take i)).2)) ∧ M'[q]? = some (.lst ((places ord (((gT t).go s).take i)).2.map stgD)) ∧ Kp (fun a => a = n ∨ a = q) M9 M') ?_
      array_get_dec
      refine k_forL (fun i env M' hh => by obtain ⟨_, _, h, _⟩ := hh; exact h) ⟨x13, rfl, gl9, hn9, hq9, .refl⟩ ?_ ?_
      · rintro i d env MA hd ⟨y13, rfl, b1, b2, b3, b4⟩
        have hi : i < ((gT t).go s).length := by have := (List.getElem?_eq_some_iff.mp hd).1; simpa using this
        have ei : ((gT t).go s)[i]? = some ((gT t).go s)[i] := List.getElem?_eq_getElem hi
        have ed : d = stgD ((gT t).go s)[i] := by rw [List.getElem?_map, ei] at hd; cases hd; rfl
        subst ed
        have gol := go_len (t := t) (s := s)
        have hmore := places_more ord (((gT t).go s).take i)
        have htl : (((gT t).go s).take i).length ≤ 101 := by rw [List.length_take]; omega
        have st : (places ord (((gT t).go s).take (i + 1))).2 = (placeOf (places ord (((gT t).go s).take i)).2 ((gT t).go s)[i]).2 := by
          rw [take_succ_of ei, places_app]; rfl
        rw [st]
        generalize hkn : (places ord (((gT t).go s).take i)).2 = kn at *
        generalize ((gT t).go s)[i] = z at *
        array_get_dec
        refine wp_inN b2 (key_stg z) ?_
        rw [val_enV]
        by_cases hz : z ∈ kn
        · rw [if_pos hz]
          array_get_dec
          refine ki_of (c := false) (by ac_nf0) ?_
          array_get_dec
          have e : (placeOf kn z).2 = kn := by unfold placeOf; rw [if_pos hz]
          rw [e]
          exact ⟨_, rfl, b1, b2, b3, b4⟩
        · rw [if_neg hz]
          array_get_dec
          refine ki_of (c := true) (by ac_nf0) ?_
          array_get_dec
          refine set_enV (v := fun _ => .bl true) (.inr b2) hz (by omega) fun MB gB kB lB => ?_
          have qB : MB[q]? = some (.lst (kn.map stgD)) := kB.at b3 (by show ¬ q = n; omega)
          array_get_dec
          refine wq_append qB (size_lt (by rw [List.length_map]; omega)) ?_
          array_get_dec
          rename_i MC gC kC lC
          have e : (placeOf kn z).2 = kn ++ [z] := by unfold placeOf; rw [if_neg hz]
          have l9 := b4.1
          have l0 := lt_of gl9
          rw [e]
          refine ⟨_, rfl, kC.at (kB.at b1 (by show ¬ gl = n; omega)) (by show ¬ gl = q; omega), kC.at gB (by show ¬ n = q; omega), by rw [gC, List.map_append]; rfl, (b4.trans kB fun a _ h => .inl h).trans kC fun a _ h => .inr h⟩
      · rintro env MA ⟨y13, rfl, b1, b2, b3, b4⟩
        rw [List.length_map, List.take_length] at b2 b3
        array_get_dec
        have l9 := b4.1
        have lgl := lt_of gl9
        have kA : Kp NoW M MA := kk9.trans b4 fun a ha e => by omega
        have hk : (rows ++ [((afterMiss t s).1, (placeOf ord (afterMiss t s).2).1, (places (placeOf ord (afterMiss t s).2).2 (afterHits t s)).1)]).length = rows.length + 1 := by simp
        obtain ⟨ys, ey⟩ := places_pre ord ((gT t).go s)
        have tk : (places ord ((gT t).go s)).2.take (rows.length + 1) = ord.take rows.length ++ [s] := by
          rw [ey, List.take_append_of_le_length (by omega), take_succ_of es]
        refine ⟨m, by omega, _, _, _, _, _, _, _, _, _, (places ord ((gT t).go s)).2, rows ++ [((afterMiss t s).1, (placeOf ord (afterMiss t s).2).1, (places (placeOf ord (afterMiss t s).2).2 (afterHits t s)).1)], g2, by rw [hk]; rfl, ?_, hm', ?_, ?_, kA⟩
        · rw [hk]
          refine ⟨.inr ⟨by omega, ?_⟩, b2, b3, fun x hx => ?_, hfn, hnq⟩
          · rw [tk, ← take_succ_of es]
            exact b4.at g9 (by omega)
          · rw [tk] at hx
            rcases List.mem_append.mp hx with hx | hx
            · obtain ⟨c1, c2⟩ := lw.hg x hx
              have c3 := lt_of c2
              rw [g2o x hx]
              exact ⟨c1, b4.at (k9.at (k8.at (k7.at (k6.at c2 id) id) (by show ¬ g x = gl; omega)) (by show ¬ g x = f; omega)) (by omega)⟩
            · have : x = s := by simpa using hx
              subst this
              rw [g2s]
              exact ⟨by omega, b1⟩
        · rw [hk, ey, List.length_append]; omega
        · exact places_nd _ nd
  · rw [decide_eq_false (by rw [List.length_map]; intro h; exact hl (by exact_mod_cast h))]
    have e := stg_end hm hl
    cases e
    refine (show kSeq _ _ _ _ from ?_)
    array_get_dec
    refine ⟨f, g, rfl, ⟨?_, fun x hx => ?_⟩, kk⟩
    · rcases lw.hf with ⟨k0, _⟩ | ⟨_, z⟩
      · omega
      · rw [List.take_of_length_le (by omega)] at z
        exact z
    · exact (lw.hg x (by rw [List.take_of_length_le (by omega)]; exact hx)).2
end L55

/-! text I9_55 -/
namespace L55
open PySem L2 PySem.Spec PyProof.Rows Zl
/-! ## the law's pairs of stages that are unlike -/
abbrev Pr := Stg × Stg
def pD (p : Pr) : Dv := .tup [stgD p.1, stgD p.2]
def pK (p : Pr) : NestedKey := .tup [stgK p.1, stgK p.2]
theorem nk7_stg (s : Stg) : nkN 7 (stgD s) = some (stgK s) := by
  show (match nkL (nkN 6) [.int (s.1 : Nat), .tup (intsN s.2)] with | some ks => some (NestedKey.tup ks) | none => none) = _
  have h2 : nkN 6 (.tup (intsN s.2)) = some (.tup (s.2.map fun n => .num (n : Nat))) := by
    show (match nkL (nkN 5) (intsN s.2) with | some ks => some (NestedKey.tup ks) | none => none) = _
    rw [nk_ints]
  unfold nkL nkL
  simp only [h2]
  rfl
theorem nk_pair (p : Pr) : nkN 8 (.tup [stgD p.1, stgD p.2]) = some (pK p) := by
  show (match nkL (nkN 7) [stgD p.1, stgD p.2] with | some ks => some (NestedKey.tup ks) | none => none) = _
  unfold nkL nkL nkL
  simp only [nk7_stg]
  rfl
theorem key_pr (p : Pr) : keyN (pD p) = some (pK p) := nk_pair p
theorem key_pr2 (p : Pr) : keyN (.pr [stgD p.1, stgD p.2]) = some (pK p) := nk_pair p
theorem pr_inj (a b : Pr) (h : pK a = pK b) : a = b := by
  unfold pK at h
  simp only [NestedKey.tup.injEq, List.cons.injEq, and_true] at h
  exact Prod.ext (stg_inj _ _ h.1) (stg_inj _ _ h.2)
def enB (xs : List Pr) : List (NestedKey × Dv × Dv) := xs.map fun x => (pK x, pD x, .bl true)
theorem val_enB (x : Pr) : ∀ xs : List Pr, valN (enB xs) (pK x) = if x ∈ xs then some (.bl true) else none
  | [] => rfl
  | y :: ys => by
    show valN ((pK y, pD y, .bl true) :: enB ys) (pK x) = _
    rw [val_cons, val_enB x ys]
    by_cases h : y = x
    · subst h
      rw [if_pos rfl, if_pos (List.mem_cons_self ..)]
    · have h' : ¬ x = y := fun e => h e.symm
      rw [if_neg fun e => h (pr_inj _ _ e)]
      by_cases hm : x ∈ ys
      · rw [if_pos hm, if_pos (List.mem_cons_of_mem _ hm)]
      · rw [if_neg hm, if_neg (by simp [h', hm])]
theorem put_enB {x : Pr} {xs : List Pr} (h : x ∉ xs) : putN (enB xs) (pK x) (pD x) (.bl true) = enB (xs ++ [x]) := by
  unfold putN
  rw [val_enB, if_neg h]
  show enB xs ++ _ = _
  unfold enB
  rw [List.map_append]; rfl
theorem enB_len {xs : List Pr} : (enB xs).length = xs.length := by simp [enB]
/-- the dict of pairs: empty at first -/
def BAt (n : Nat) (us : List Pr) (M : Mem) : Prop := (us = [] ∧ M[n]? = some (.dct [])) ∨ M[n]? = some (.dcn (enB us))
theorem set_enB {n : Nat} {x : Pr} {us : List Pr} {M : Mem} {Q : Mem → Prop} (hf : BAt n us M) (hs : x ∉ us) (hl : us.length ≤ 100000)
    (h : ∀ M', BAt n (us ++ [x]) M' → Kp (fun m => m = n) M M' → M'.length = M.length → Q M') : kSet (.loc n) (pD x) (.bl true) Q M := by
  rcases hf with ⟨rfl, hf⟩ | hf
  · refine k_set0 hf (key_pr x) fun M' h1 h2 h3 => h M' (.inr ?_) h2 h3
    rw [h1]
    exact congrArg (fun z => some (Ob.dcn z)) (put_enB (x := x) (xs := []) (by simp))
  · refine k_setDn hf (key_pr x) (by rw [enB_len]; omega) fun M' h1 h2 h3 => h M' (.inr ?_) h2 h3
    rw [h1, put_enB hs]
theorem in_enB {b : Bool} {d : Dv} {n : Nat} {x : Pr} {us : List Pr} {M : Mem} {q : QE} (hf : BAt n us M) (hk : keyN d = some (pK x)) (h : q (.bl (xor b (decide (x ∈ us)))) M) : Wp (inE b d (.loc n) M) q := by
  rcases hf with ⟨rfl, hf⟩ | hf
  · refine wp_in0 hf hk ?_
    simpa using h
  · refine wp_inN hf hk ?_
    rw [val_enB]
    by_cases hx : x ∈ us
    · rw [if_pos hx]; rw [decide_eq_true hx] at h; exact h
    · rw [if_neg hx]; rw [decide_eq_false hx] at h; exact h
theorem len_enB {n : Nat} {us : List Pr} {M : Mem} {q : QE} (hf : BAt n us M) (h : q (.int (us.length : Nat)) M) : Wp (lenE [.loc n] M) q := by
  rcases hf with ⟨rfl, hf⟩ | hf
  · exact wp_lenK hf h
  · exact wp_lenN hf (by rw [enB_len]; exact h)
theorem BAt.kp {W : Nat → Prop} {n : Nat} {us : List Pr} {M M' : Mem} (h : BAt n us M) (k : Kp W M M') (w : ¬ W n) : BAt n us M' := h.imp (fun z => ⟨z.1, k.at z.2 w⟩) fun z => k.at z w
/-! what is found -/
def allP (O : List Stg) : List Pr := O.flatMap fun a => O.map fun b => (a, b)
theorem mem_allP {O : List Stg} {p : Pr} : p ∈ allP O ↔ p.1 ∈ O ∧ p.2 ∈ O := by
  unfold allP
  rw [List.mem_flatMap]
  constructor
  · rintro ⟨a, ha, h⟩
    obtain ⟨b, hb, rfl⟩ := List.mem_map.mp h
    exact ⟨ha, hb⟩
  · rintro ⟨h1, h2⟩
    exact ⟨p.1, h1, List.mem_map.mpr ⟨p.2, h2, rfl⟩⟩
def baseB (t : Tb) (p : Pr) : Bool := decide ((gT t).ln p.1 ≠ (gT t).ln p.2) || decide ((gT t).pl p.1 ≠ (gT t).pl p.2)
def stepB (t : Tb) (us : List Pr) (p : Pr) : Bool := (((gT t).go p.1).zip ((gT t).go p.2)).any fun x => decide (x ∈ us)
/-- so far -/
structure Fnd (t : Tb) (O : List Stg) (us : List Pr) : Prop where
  nd : us.Nodup
  sub : ∀ p ∈ us, p ∈ allP O
  un : ∀ p ∈ us, Un (gT t) p.1 p.2
theorem Fnd.add {t : Tb} {O : List Stg} {us : List Pr} {p : Pr} (h : Fnd t O us) (hp : p ∈ allP O) (hn : p ∉ us) (u : Un (gT t) p.1 p.2) : Fnd t O (us ++ [p]) := by
  refine ⟨?_, fun x hx => ?_, fun x hx => ?_⟩
  · rw [List.nodup_append]
    refine ⟨h.nd, by simp, fun a ha b hb e => hn ?_⟩
    have : b = p := by simpa using hb
    rw [← this, ← e]; exact ha
  · rcases List.mem_append.mp hx with hx | hx
    · exact h.sub x hx
    · rw [show x = p by simpa using hx]; exact hp
  · rcases List.mem_append.mp hx with hx | hx
    · exact h.un x hx
    · rw [show x = p by simpa using hx]; exact u
theorem step_un {t : Tb} {O : List Stg} {us : List Pr} {p : Pr} (h : Fnd t O us) (hb : stepB t us p = true) : Un (gT t) p.1 p.2 := by
  obtain ⟨x, hx, e⟩ := List.any_eq_true.mp hb
  exact .step hx (h.un x (of_decide_eq_true e))
/-- nothing more to find -/
theorem closed {t : Tb} {O : List Stg} {us : List Pr} (on : ∀ s ∈ O, ∀ x ∈ (gT t).go s, x ∈ O) (h : Fnd t O us) (hb : ∀ p ∈ allP O, baseB t p = true → p ∈ us) (hs : ∀ p ∈ allP O, stepB t us p = true → p ∈ us) {a b : Stg} (ha : a ∈ O) (hbO : b ∈ O) : (a, b) ∈ us ↔ Un (gT t) a b := by
  refine ⟨fun hm => h.un _ hm, fun u => ?_⟩
  induction u with
  | @base a b q =>
    refine hb (a, b) (mem_allP.mpr ⟨ha, hbO⟩) ?_
    unfold baseB
    rcases q with q | q
    · rw [decide_eq_true q]; rfl
    · rw [decide_eq_true q, Bool.or_true]
  | @step a b x y hm _ ih =>
    obtain ⟨i, h1, h2⟩ := mem_zip_iff.mp hm
    refine hs (a, b) (mem_allP.mpr ⟨ha, hbO⟩) (List.any_eq_true.mpr ⟨(x, y), hm, ?_⟩)
    exact decide_eq_true (ih (on a ha x (List.mem_of_getElem? h1)) (on b hbO y (List.mem_of_getElem? h2)))
end L55

/-! text I10_55 -/
namespace L55
open PySem L2 PySem.Spec PyProof.Rows Zl
theorem keysV {v : Stg → Dv} {O : List Stg} : ((enV v O).map fun p => p.2.1) = O.map stgD := by
  unfold enV
  rw [List.map_map]; rfl
theorem kp_back {f : Nat} {o : Ob} {M M2 : Mem} (k : Kp (fun n => n = f) M M2) (h : M[f]? = some o) : Kp NoW M (M2.set f o) := by
  refine ⟨by rw [List.length_set]; exact k.1, fun m hm _ => ?_⟩
  by_cases e : m = f
  · subst e
    rw [List.getElem?_set_self (Nat.lt_of_lt_of_le hm k.1)]; exact h.symm
  · rw [List.getElem?_set_ne (fun q => e q.symm)]
    exact k.2 m hm e
def addU (us : List Pr) (x : Pr) : List Pr := if x ∈ us then us else us ++ [x]
theorem addU_mem {us : List Pr} {x y : Pr} : y ∈ addU us x ↔ y ∈ us ∨ y = x := by
  unfold addU
  split
  · rename_i h
    exact ⟨.inl, fun q => q.elim id fun e => e ▸ h⟩
  · simp [List.mem_append]
theorem set_enU {n : Nat} {x : Pr} {us : List Pr} {M : Mem} {Q : Mem → Prop} (hf : BAt n us M) (hl : us.length ≤ 100000)
    (h : ∀ M', BAt n (addU us x) M' → Kp (fun m => m = n) M M' → M'.length = M.length → Q M') : kSet (.loc n) (pD x) (.bl true) Q M := by
  by_cases hx : x ∈ us
  · have e : addU us x = us := if_pos hx
    rw [e] at h
    rcases hf with ⟨rfl, _⟩ | hf
    · cases hx
    · refine k_setDn hf (key_pr x) (by rw [enB_len]; omega) fun M' h1 h2 h3 => h M' (.inr ?_) h2 h3
      rw [h1]
      unfold putN
      rw [val_enB, if_pos hx]
      simp only [Option.isSome_some, if_true]
      refine congrArg (fun z => some (Ob.dcn z)) ?_
      conv => rhs; rw [← List.map_id (enB us)]
      refine List.map_congr_left fun kv hkv => ?_
      unfold enB at hkv
      obtain ⟨y, _, rfl⟩ := List.mem_map.mp hkv
      dsimp only
      split <;> rfl
  · have e : addU us x = us ++ [x] := if_neg hx
    rw [e] at h
    exact set_enB hf hx hl h
theorem Fnd.addU {t : Tb} {O : List Stg} {us : List Pr} {p : Pr} (h : Fnd t O us) (hp : p ∈ allP O) (u : Un (gT t) p.1 p.2) : Fnd t O (addU us p) := by
  unfold L55.addU
  split
  · exact h
  · rename_i hn; exact h.add hp hn u
theorem pairs_len {O : List Stg} : ∀ xs : List Stg, (xs.flatMap fun a => O.map fun b => (a, b)).length = xs.length * O.length
  | [] => by simp
  | x :: xs => by rw [List.flatMap_cons, List.length_append, pairs_len xs, List.length_map, List.length_cons, Nat.succ_mul]; omega
theorem allP_few {O : List Stg} (h : O.length ≤ 61) : (allP O).length ≤ 3721 := by
  unfold allP
  rw [pairs_len]
  exact Nat.mul_le_mul h h
theorem Fnd.few {t : Tb} {O : List Stg} {us : List Pr} (h : Fnd t O us) (hO : O.length ≤ 61) : us.length ≤ 3721 := Nat.le_trans (nd_len h.nd h.sub) (allP_few hO)
theorem RowsAt.kpN {t : Tb} {O : List Stg} {f : Nat} {g : Stg → Nat} {M M' : Mem} (h : RowsAt t O f g M) (k : Kp NoW M M') : RowsAt t O f g M' := ⟨k.at h.hf id, fun s hs => k.at (h.hg s hs) id⟩
theorem bls_bl : ∀ bs : List Bool, blsD (bs.map Dv.bl) = some bs
  | [] => rfl
  | b :: bs => by
    show (match blsD (bs.map Dv.bl) with | some xs => some (b :: xs) | none => none) = _
    rw [bls_bl bs]
def pA (O : List Stg) (i : Nat) : Pr := (allP O).getD i ((0, []), (0, []))
theorem pA_at {O : List Stg} {i : Nat} (h : i < (allP O).length) : (allP O)[i]? = some (pA O i) := by
  unfold pA
  rw [List.getD_eq_getElem?_getD, List.getElem?_eq_getElem h]; rfl
theorem sp_unlike {t : Tb} {O : List Stg} {f : Nat} {g : Stg → Nat} {M : Mem} (hR : RowsAt t O f g M) (few : O.length ≤ 61) (on : ∀ s ∈ O, ∀ x ∈ (gT t).go s, x ∈ O) (sm : ∀ s ∈ O, s.2.length ≤ 3) :
    Wp (m__law_unlike [.loc f] M) fun d M' => ∃ n us, d = .loc n ∧ BAt n us M' ∧ (∀ a ∈ O, ∀ b ∈ O, ((a, b) ∈ us ↔ Un (gT t) a b)) ∧ Kp NoW M M' := by
  have hf := hR.hf
  have flt := lt_of hf
  refine wp_fn rfl [some (.loc f), none, none, none, none, none, none, none] rfl ?_
  unfold b__law_unlike
  array_get_dec
  rename_i p M1 e1 g1 k1 l1 n M2 e2 g2 k2 l2
  have hf2 := k2.at (k1.at hf id) id
  refine wq_lockS rfl hf2 ?_
  have k3 : Kp (fun a => a = f) M2 (M2.set f (.lckN (enV (vR t g) O))) := .set fun _ => rfl
  have f3 : (M2.set f (.lckN (enV (vR t g) O)))[f]? = some (.lckN (enV (vR t g) O)) := at_set hf2
  generalize M2.set f (.lckN (enV (vR t g) O)) = M3 at k3 f3
  refine wq_for (fun i env M' => ∃ x3 : Option Dv, env = [some (.loc f), some (.loc p), some (.loc n), x3, none, none, none, none] ∧ M'[f]? = some (.lckN (enV (vR t g) O)) ∧ M'[p]? = some (.lst (((O.take i).flatMap fun a => O.map fun b => (a, b)).map pD)) ∧ Kp (fun a => a = p) M3 M') ?_
  refine wq_keysN ?_
  array_get_dec
  refine ⟨f, _, rfl, f3, ?_⟩
  rw [keysV]
  refine k_forT ⟨none, rfl, f3, k3.at (k2.at g1 id) (by show ¬ p = f; omega), .refl⟩ ?_ ?_
  · rintro i d env M4 hd ⟨x3, rfl, b1, b2, b3⟩
    have hi : i < O.length := by have := (List.getElem?_eq_some_iff.mp hd).1; simpa using this
    have ei : O[i]? = some O[i] := List.getElem?_eq_getElem hi
    have ed : d = stgD O[i] := by rw [List.getElem?_map, ei] at hd; cases hd; rfl
    subst ed
    array_get_dec
    refine wq_map (fun x => .tup [stgD O[i], x]) ?_
    refine wq_keysN ?_
    array_get_dec
    refine ⟨f, _, rfl, b1, ?_⟩
    rw [keysV]
    refine k_mapT (size_le (by rw [List.length_map]; omega)) ?_ ?_
    · intro y hy M5 k5
      array_get_dec
      exact ⟨rfl, .refl⟩
    · intro h M5 e5 l5 k5 g5
      array_get_dec
      have tl : ((O.take i).flatMap fun a => O.map fun b => (a, b)).length ≤ 4000 := by
        rw [pairs_len, List.length_take]
        exact Nat.le_trans (Nat.mul_le_mul (show min i O.length ≤ 61 by omega) few) (by decide)
      refine wq_extendL (k5.at b2 id) g5 (by simp only [List.length_map]; omega) ?_
      array_get_dec
      rename_i M6 g6 k6 l6
      refine ⟨_, rfl, k6.at (k5.at b1 id) (by show ¬ f = p; omega), ?_, (b3.trN k5).trans k6 fun a _ h => h⟩
      rw [g6, take_succ_of ei, List.flatMap_append, List.map_append]
      congr 3
      simp [pD]
  · rintro env M4 ⟨x3, rfl, b1, b2, b3⟩
    rw [List.length_map, List.take_length] at b2
    have k4 : Kp (fun a => a = f) M M4 := by
      have := b3.1
      refine (((Kp.refl (W := fun a => a = f)).trN k1).trN k2).trans k3 (fun a _ h => h) |>.trans b3 fun a ha e => ?_
      have e' : a = p := e
      omega
    have k5 := kp_back k4 hf
    have p5 : (M4.set f (.dcn (enV (vR t g) O)))[p]? = some (.lst ((allP O).map pD)) := at_set_ne b2 (by omega)
    have n5 : BAt n [] (M4.set f (.dcn (enV (vR t g) O))) := .inl ⟨rfl, at_set_ne (b3.at (k3.at g2 (by show ¬ n = f; omega)) (by show ¬ n = p; omega)) (by omega)⟩
    have l5 := k5.1
    generalize M4.set f (.dcn (enV (vR t g) O)) = M5 at k5 p5 n5 l5
    clear b1 b2 b3 k4
    have hR5 := hR.kpN k5
    have hU5 : Kp (fun a => a = n) M5 M5 := .refl
    array_get_dec
    refine wq_for (fun i env M' => ∃ (x3 x4 : Option Dv) (us : List Pr), env = [some (.loc f), some (.loc p), some (.loc n), x3, x4, none, none, none] ∧ M'[p]? = some (.lst ((allP O).map pD)) ∧ BAt n us M' ∧ Fnd t O us ∧ (∀ q ∈ (allP O).take i, baseB t q = true → q ∈ us) ∧ Kp NoW M M') ?_
    array_get_dec
    refine k_forL (fun i env M' hh => by obtain ⟨_, _, _, _, h, _⟩ := hh; exact h) ⟨x3, none, [], rfl, p5, n5, ⟨List.nodup_nil, fun _ h => (by cases h), fun _ h => (by cases h)⟩, fun q h => (by simp at h), k5⟩ ?_ ?_
    · rintro i d env M6 hd ⟨x3, x4, us, rfl, c1, c2, c3, c4, c5⟩
      have hi : i < (allP O).length := by have := (List.getElem?_eq_some_iff.mp hd).1; simpa using this
      have ei : (allP O)[i]? = some (allP O)[i] := List.getElem?_eq_getElem hi
      have ed : d = pD (allP O)[i] := by rw [List.getElem?_map, ei] at hd; cases hd; rfl
      subst ed
      have hin := List.mem_of_getElem? ei
      have tk := take_succ_of ei
      rw [tk]
      generalize (allP O)[i] = q at *
      obtain ⟨a, b⟩ := q
      obtain ⟨ha, hb⟩ := mem_allP.mp hin
      have hR6 := hR.kpN c5
      have hf6 := hR6.hf
      have va : valN (enV (vR t g) O) (stgK a) = some (vR t g a) := by rw [val_enV, if_pos ha]
      have vb : valN (enV (vR t g) O) (stgK b) = some (vR t g b) := by rw [val_enV, if_pos hb]
      rw [show pD (a, b) = Dv.tup [stgD a, stgD b] from rfl]
      array_get_dec
      refine wp_ev (a := .tup (intsN a.2)) (M' := M6) rfl ?_
      array_get_dec
      refine wp_ev (a := .tup (intsN b.2)) (M' := M6) rfl ?_
      array_get_dec
      refine k_join (fun bb M' => bb = baseB t (a, b) ∧ M6 = M') (fun h1 => ?_) (fun h1 => ?_) ?_
      · refine wp_ok ⟨?_, rfl⟩
        have ne : a.2.length ≠ b.2.length := by
          intro e
          simp [intsN, e] at h1
        show true = baseB t (a, b)
        unfold baseB
        rw [decide_eq_true (show (gT t).ln (a, b).1 ≠ (gT t).ln (a, b).2 from ne)]; rfl
      · have e : a.2.length = b.2.length := by
          simp [intsN] at h1
          exact_mod_cast h1
        array_get_dec
        refine wp_ixN hf6 (key_stg a) va ?_
        array_get_dec
        refine wp_ev (a := .int ((afterMiss t a).1 : Nat)) (M' := M6) rfl ?_
        array_get_dec
        refine wp_ixN hf6 (key_stg b) vb ?_
        array_get_dec
        refine wp_ev (a := .int ((afterMiss t b).1 : Nat)) (M' := M6) rfl ?_
        array_get_dec
        refine ⟨?_, rfl⟩
        unfold baseB
        rw [decide_eq_false (show ¬ (gT t).ln (a, b).1 ≠ (gT t).ln (a, b).2 from fun h => h e), Bool.false_or]
        show (true ^^ (((afterMiss t a).1 : Nat) : Int) == (((afterMiss t b).1 : Nat) : Int)) = decide ((afterMiss t a).1 ≠ (afterMiss t b).1)
        by_cases h : (afterMiss t a).1 = (afterMiss t b).1
        · rw [h]; simp
        · have h2 : ¬ (((afterMiss t a).1 : Nat) : Int) = (((afterMiss t b).1 : Nat) : Int) := fun e => h (by exact_mod_cast e)
          simp [h]
          exact h2
      rintro _ _ ⟨rfl, rfl⟩
      cases hbase : baseB t (a, b) with
      | true =>
        array_get_dec
        rw [show Dv.tup [stgD a, stgD b] = pD (a, b) from rfl]
        refine set_enU c2 (by have := c3.few few; omega) fun M7 c7 k7 l7 => ?_
        array_get_dec
        have u : Un (gT t) a b := by
          unfold baseB at hbase
          rw [Bool.or_eq_true, decide_eq_true_iff, decide_eq_true_iff] at hbase
          exact .base hbase
        have nM := c5.1
        refine ⟨_, _, _, rfl, k7.at c1 (by show ¬ p = n; omega), c7, c3.addU hin u, fun q hq hb2 => ?_, c5.trans k7 fun m hm e => by have e' : m = n := e; omega⟩
        rcases List.mem_append.mp hq with hq | hq
        · exact addU_mem.mpr (.inl (c4 q hq hb2))
        · exact addU_mem.mpr (.inr (by simpa using hq))
      | false =>
        array_get_dec
        refine ⟨_, _, us, rfl, c1, c2, c3, fun q hq hb2 => ?_, c5⟩
        rcases List.mem_append.mp hq with hq | hq
        · exact c4 q hq hb2
        · rw [show q = (a, b) by simpa using hq, hbase] at hb2
          cases hb2
    · rintro env M6 ⟨x3, x4, us, rfl, c1, c2, c3, c4, c5⟩
      array_get_dec
      rw [List.length_map, List.take_length] at c4
      refine wp_whileI (fun m env M' => ∃ (x3 x4 x6 x7 : Option Dv) (bef : Int) (us : List Pr), env = [some (.loc f), some (.loc p), some (.loc n), x3, x4, some (.int bef), x6, x7] ∧ M'[p]? = some (.lst ((allP O).map pD)) ∧ BAt n us M' ∧ Fnd t O us ∧ (∀ q ∈ allP O, baseB t q = true → q ∈ us) ∧
        bef ≤ us.length ∧ (bef = us.length → ∀ q ∈ allP O, stepB t us q = true → q ∈ us) ∧ m = 2 * (4000 - us.length) + (if bef = us.length then 0 else 1) ∧ Kp NoW M M') ?_ 1000000 _ _ M6 (by split <;> omega) ⟨x3, x4, none, none, -1, us, rfl, c1, c2, c3, c4, by omega, fun h => by omega, rfl, c5⟩
      clear c1 c2 c3 c4 c5
      rintro m env M6 ⟨x3, x4, x6, x7, bef, us, rfl, c1, c2, c3, c4, c6, c7, c8, c5⟩
      have hus := c3.few few
      array_get_dec
      refine len_enB c2 ?_
      array_get_dec
      by_cases hl : bef < (us.length : Int)
      · rw [decide_eq_true hl]
        refine (show Wp _ _ from ?_)
        array_get_dec
        refine len_enB c2 ?_
        array_get_dec
        have lP := allP_few few
        refine wq_lcG (fun i => !decide (pA O i ∈ us)) (fun i => pD (pA O i)) ?_
        array_get_dec
        refine ⟨by show ((allP O).map pD).length ≤ 16000000; rw [List.length_map]; omega, fun i M7 k7 hi => ?_, fun M7 k7 => ?_, fun h M7 e7 l7 k7 g7 => ?_⟩
        · rw [List.length_map] at hi
          refine ⟨pD (pA O i), ?_, ?_⟩
          · refine Eq.trans (stpL_at (k7.at c1 id)) ?_
            rw [List.getElem?_map, pA_at hi]; rfl
          · array_get_dec
            refine in_enB (c2.kp k7 id) (key_pr _) ?_
            array_get_dec
            refine ⟨by simp, .refl, fun _ => ?_⟩
            array_get_dec
            exact ⟨rfl, .refl⟩
        · refine Eq.trans (stpL_at (k7.at c1 id)) ?_
          rw [List.getElem?_eq_none (Nat.le_refl _)]
        · rw [List.length_map] at g7
          have hlt := lt_of c1
          array_get_dec
          refine wq_for (fun i env M' => ∃ (x3 x4 x7 : Option Dv) (vs : List Pr), env = [some (.loc f), some (.loc p), some (.loc n), x3, x4, some (.int (us.length : Nat)), some (.loc h), x7] ∧ M'[p]? = some (.lst ((allP O).map pD)) ∧
            M'[h]? = some (.lst (((List.range (allP O).length).filter fun i => !decide (pA O i ∈ us)).map fun i => pD (pA O i))) ∧ BAt n vs M' ∧ Fnd t O vs ∧ (∀ q ∈ us, q ∈ vs) ∧ us.length ≤ vs.length ∧
            (vs.length = us.length → vs = us ∧ ∀ j ∈ (((List.range (allP O).length).filter fun i => !decide (pA O i ∈ us)).take i), stepB t us (pA O j) = false) ∧ Kp NoW M M') ?_
          array_get_dec
          refine k_forL (fun i env M' hh => by obtain ⟨_, _, _, _, _, _, h, _⟩ := hh; exact h) ⟨x3, x4, x7, us, rfl, k7.at c1 id, g7, c2.kp k7 id, c3, fun q h => h, Nat.le_refl _, fun _ => ⟨rfl, fun j hj => by simp at hj⟩, c5.tr k7⟩ ?_ ?_
          · rintro i d env M8 hd ⟨x3, x4, x7, vs, rfl, d1, d2, d3, d4, d5, d6, d7, d8⟩
            have lL : ((List.range (allP O).length).filter fun i => !decide (pA O i ∈ us)).length ≤ 4000 := Nat.le_trans (List.length_filter_le ..) (by rw [List.length_range]; omega)
            generalize hL : ((List.range (allP O).length).filter fun i => !decide (pA O i ∈ us)) = L at *
            have hi : i < L.length := by have := (List.getElem?_eq_some_iff.mp hd).1; simpa using this
            have ei : L[i]? = some L[i] := List.getElem?_eq_getElem hi
            have ed : d = pD (pA O L[i]) := by rw [List.getElem?_map, ei] at hd; cases hd; rfl
            subst ed
            have mL : ∀ x ∈ L, x ∈ List.range (allP O).length := fun x hx => by rw [← hL] at hx; exact (List.mem_filter.mp hx).1
            have jm := mL _ (List.getElem_mem hi)
            have mN : ∀ x ∈ L, pA O x ∉ us := fun x hx => by rw [← hL] at hx; simpa using (List.mem_filter.mp hx).2
            have jn := mN _ (List.getElem_mem hi)
            have nlt : n < M6.length := by rcases c2 with ⟨_, z⟩ | z <;> exact lt_of z
            have hin : pA O L[i] ∈ allP O := List.mem_of_getElem? (pA_at (List.mem_range.mp jm))
            rw [take_succ_of ei]
            generalize L[i] = j at *
            generalize hq : pA O j = pr at *
            obtain ⟨a, b⟩ := pr
            obtain ⟨ha, hb⟩ := mem_allP.mp hin
            have hR8 := hR.kpN d8
            have hf8 := hR8.hf
            have va : valN (enV (vR t g) O) (stgK a) = some (vR t g a) := by rw [val_enV, if_pos ha]
            have vb : valN (enV (vR t g) O) (stgK b) = some (vR t g b) := by rw [val_enV, if_pos hb]
            rw [show pD (a, b) = Dv.tup [stgD a, stgD b] from rfl]
            array_get_dec
            have ga := hR8.hg a ha
            have gb := hR8.hg b hb
            have la := go_len (t := t) (s := a)
            have hsm : a.2.length + 1 ≤ 1000 := by have := sm a ha; omega
            refine wq_lcG (fun _ => true) (fun k => .bl (decide ((((gT t).go a).zip ((gT t).go b)).getD k ((0, []), (0, [])) ∈ vs))) ?_
            refine wq_zipN ?_
            array_get_dec
            refine wp_ixN hf8 (key_stg a) va ?_
            array_get_dec
            refine wp_ev (a := .loc (g a)) (M' := M8) rfl ?_
            array_get_dec
            refine wp_ixN hf8 (key_stg b) vb ?_
            array_get_dec
            refine wp_ev (a := .loc (g b)) (M' := M8) rfl ?_
            refine ⟨g a, g b, _, _, rfl, rfl, ga, gb, fun src hs => ?_⟩
            have es : src = ⟨min (((gT t).go a).map stgD).length (((gT t).go b).map stgD).length, stpZL (g a) (g b)⟩ := by
              obtain ⟨s', e', h'⟩ := k_zipL (qi := fun s _ => s = ⟨min (((gT t).go a).map stgD).length (((gT t).go b).map stgD).length, stpZL (g a) (g b)⟩) ga gb rfl
              rw [e'] at hs; cases hs; exact h'
            subst es
            have lenz : ((gT t).go a).length ≤ 1000 := Nat.le_trans (Nat.le_of_eq la) hsm
            refine ⟨by show min _ _ ≤ _; simp only [List.length_map]; omega, fun k M9 k9 hk => ?_, fun M9 k9 => (stpZL_at (k9.at ga id) (k9.at gb id)).trans (congrArg some zip_end), fun h9 M9 e9 l9 k9 g9 => ?_⟩
            · have hk' : k < min (((gT t).go a).map stgD).length (((gT t).go b).map stgD).length := hk
              simp only [List.length_map] at hk'
              have h1 : k < ((gT t).go a).length := by omega
              have h2 : k < ((gT t).go b).length := by omega
              refine ⟨.pr [stgD ((gT t).go a)[k], stgD ((gT t).go b)[k]], (stpZL_at (k9.at ga id) (k9.at gb id)).trans (congrArg some (zip_at (by rw [List.getElem?_map, List.getElem?_eq_getElem h1]; rfl) (by rw [List.getElem?_map, List.getElem?_eq_getElem h2]; rfl))), ?_⟩
              array_get_dec
              refine wp_ok ⟨rfl, .refl, fun _ => ?_⟩
              array_get_dec
              refine in_enB (x := (((gT t).go a)[k], ((gT t).go b)[k])) (d3.kp k9 id) (key_pr2 (((gT t).go a)[k], ((gT t).go b)[k])) ⟨?_, .refl⟩
              have ez : ((gT t).go a |>.zip ((gT t).go b)).getD k ((0, []), (0, [])) = (((gT t).go a)[k], ((gT t).go b)[k]) := by
                have e0 : (((gT t).go a).zip ((gT t).go b))[k]? = some (((gT t).go a)[k], ((gT t).go b)[k]) := List.getElem?_zip_eq_some.mpr ⟨List.getElem?_eq_getElem h1, List.getElem?_eq_getElem h2⟩
                rw [List.getD_eq_getElem?_getD, e0]; rfl
              rw [ez, Bool.false_xor]
            · array_get_dec
              have g9' : M9[h9]? = some (.lst (((List.range (min (((gT t).go a).map stgD).length (((gT t).go b).map stgD).length)).map fun k => decide ((((gT t).go a).zip ((gT t).go b)).getD k ((0, []), (0, [])) ∈ vs)).map Dv.bl)) := by
                rw [g9, List.filter_eq_self.mpr (fun _ _ => rfl), List.map_map]; rfl
              refine wp_any g9' (bls_bl _) ?_
              have sb : ((List.range (min (((gT t).go a).map stgD).length (((gT t).go b).map stgD).length)).map fun k => decide ((((gT t).go a).zip ((gT t).go b)).getD k ((0, []), (0, [])) ∈ vs)).any id = stepB t vs (a, b) := by
                rw [Bool.eq_iff_iff, List.any_eq_true]
                unfold stepB
                rw [List.any_eq_true]
                constructor
                · rintro ⟨x, hx, e⟩
                  obtain ⟨k, hk, rfl⟩ := List.mem_map.mp hx
                  have hk' := List.mem_range.mp hk
                  simp only [List.length_map] at hk'
                  have e0 : (((gT t).go a).zip ((gT t).go b))[k]? = some ((((gT t).go a).zip ((gT t).go b))[k]'(by rw [List.length_zip]; exact hk')) := List.getElem?_eq_getElem _
                  refine ⟨_, List.mem_of_getElem? e0, ?_⟩
                  rw [List.getD_eq_getElem?_getD, e0] at e
                  exact e
                · rintro ⟨x, hx, e⟩
                  obtain ⟨k, hk⟩ := List.getElem?_of_mem hx
                  have kl := (List.getElem?_eq_some_iff.mp hk).1
                  rw [List.length_zip] at kl
                  refine ⟨_, List.mem_map.mpr ⟨k, List.mem_range.mpr (by simpa only [List.length_map] using kl), rfl⟩, ?_⟩
                  rw [List.getD_eq_getElem?_getD, hk]
                  exact e
              rw [sb]
              have nM := (d8.tr k9).1
              cases hsb : stepB t vs (a, b) with
              | true =>
                array_get_dec
                rw [show Dv.tup [stgD a, stgD b] = pD (a, b) from rfl]
                refine set_enU (d3.kp k9 id) (by have := d4.few few; omega) fun MA cA kA lA => ?_
                array_get_dec
                refine ⟨_, _, _, addU vs (a, b), rfl, kA.at (k9.at d1 id) (by show ¬ p = n; omega), kA.at (k9.at d2 id) (by show ¬ h = n; have := k7.1; omega), cA, d4.addU hin (step_un d4 hsb), fun q hq => addU_mem.mpr (.inl (d5 q hq)), ?_, ?_, (d8.tr k9).trans kA fun m hm e => by have e' : m = n := e; omega⟩
                · unfold addU; split
                  · exact d6
                  · rw [List.length_append]; omega
                · intro e
                  exfalso
                  unfold addU at e
                  split at e
                  · rename_i hx
                    rw [(d7 e).1] at hx
                    exact jn hx
                  · rw [List.length_append, List.length_singleton] at e; omega
              | false =>
                array_get_dec
                refine ⟨_, _, _, vs, rfl, k9.at d1 id, k9.at d2 id, d3.kp k9 id, d4, d5, d6, fun e => ⟨(d7 e).1, fun y hy => ?_⟩, d8.tr k9⟩
                rcases List.mem_append.mp hy with hy | hy
                · exact (d7 e).2 y hy
                · rw [show y = j by simpa using hy, hq, ← (d7 e).1]; exact hsb
          · rintro env M8 ⟨x3, x4, x7, vs, rfl, d1, d2, d3, d4, d5, d6, d7, d8⟩
            rw [List.length_map, List.take_length] at d7
            have few4 := d4.few few
            have hb2 : ∀ q ∈ allP O, baseB t q = true → q ∈ vs := fun q hq hb => d5 q (c4 q hq hb)
            have cls : (us.length : Int) = vs.length → ∀ q ∈ allP O, stepB t vs q = true → q ∈ vs := fun e q hq hs => by
              obtain ⟨e1, e2⟩ := d7 (by omega)
              subst e1
              refine Classical.byContradiction fun no => ?_
              obtain ⟨j, hj⟩ := List.getElem?_of_mem hq
              have jl := (List.getElem?_eq_some_iff.mp hj).1
              rw [pA_at jl] at hj
              have ej : pA O j = q := Option.some.inj hj
              have := e2 j (List.mem_filter.mpr ⟨List.mem_range.mpr jl, by rw [ej]; simp [no]⟩)
              rw [ej, hs] at this
              cases this
            refine ⟨_, ?_, x3, x4, _, x7, _, vs, rfl, d1, d3, d4, hb2, by omega, cls, rfl, d8⟩
            have n1 : ¬ bef = (us.length : Int) := by omega
            rw [c8, if_neg n1]
            split <;> omega
      · rw [decide_eq_false hl]
        refine (show kSeq _ _ _ _ from ?_)
        array_get_dec
        exact ⟨n, us, rfl, c2, fun a ha b hb => closed on c3 c4 (c7 (by omega)) ha hb, c5⟩
end L55

/-! text I11_55 -/
namespace L55
open PySem L2 PySem.Spec PyProof.Rows Zl
/-! ## numbers by the first ones, step by step -/
theorem numL_app {lk : Stg → Stg → Bool} : ∀ (xs fs : List Stg) (y : Stg), numL lk fs (xs ++ [y]) = ((numL lk fs xs).1 ++ [(num1 lk (numL lk fs xs).2 y).1], (num1 lk (numL lk fs xs).2 y).2)
  | [], fs, y => rfl
  | x :: xs, fs, y => by
    show numL lk fs (x :: (xs ++ [y])) = _
    unfold numL
    rw [numL_app xs]
    rfl
theorem num1_len {lk : Stg → Stg → Bool} {fs : List Stg} {x : Stg} : fs.length ≤ (num1 lk fs x).2.length ∧ (num1 lk fs x).2.length ≤ fs.length + 1 := by
  unfold num1
  dsimp only
  split
  · omega
  · rw [List.length_append, List.length_singleton]; omega
theorem numL_len {lk : Stg → Stg → Bool} : ∀ (xs fs : List Stg), fs.length ≤ (numL lk fs xs).2.length ∧ (numL lk fs xs).2.length ≤ fs.length + xs.length ∧ (numL lk fs xs).1.length = xs.length
  | [], fs => ⟨Nat.le_refl _, Nat.le_refl _, rfl⟩
  | x :: xs, fs => by
    have h1 := numL_len (lk := lk) xs (num1 lk fs x).2
    have h2 := num1_len (lk := lk) (fs := fs) (x := x)
    unfold numL
    dsimp only
    simp only [List.length_cons]
    omega
theorem lawG_len {t : Tb} {lk : Stg → Stg → Bool} : ∀ (f : Nat) {fs fs' : List Stg} {told told' : List (Nat × List Nat)}, lawG (gT t) lk f fs told = some (fs', told') → fs.length ≤ fs'.length
  | 0, _, _, _, _, h => by cases h
  | f + 1, fs, fs', told, told', h => by
    unfold lawG at h
    split at h
    · cases h; exact Nat.le_refl _
    · have := lawG_len f h
      have := numL_len (lk := lk) ((gT t).go (by assumption)) fs
      omega
def pN (lk : Stg → Bool) (fs : List Stg) (i : Nat) : Bool := (fs[i]?.map lk).getD false
theorem filt_find {lk : Stg → Bool} {fs : List Stg} (h : fs.findIdx lk < fs.length) : ∃ r, (List.range fs.length).filter (pN lk fs) = fs.findIdx lk :: r := by
  have e : ((List.range fs.length).filter (pN lk fs)).head? = some (fs.findIdx lk) := by
    rw [List.head?_filter, List.find?_range_eq_some]
    refine ⟨?_, List.mem_range.mpr h, fun j hj => ?_⟩
    · unfold pN
      rw [List.getElem?_eq_getElem h]
      exact List.findIdx_getElem (w := h)
    · unfold pN
      rw [List.getElem?_eq_getElem (by omega)]
      simpa using List.not_of_lt_findIdx hj
  cases q : (List.range fs.length).filter (pN lk fs) with
  | nil => rw [q] at e; cases e
  | cons a r => rw [q] at e; exact ⟨r, by rw [Option.some.inj e]⟩
theorem filt_none {lk : Stg → Bool} {fs : List Stg} (h : ¬ fs.findIdx lk < fs.length) : (List.range fs.length).filter (pN lk fs) = [] := by
  rw [List.filter_eq_nil_iff]
  intro i hi
  have il := List.mem_range.mp hi
  have : ¬ ∃ x ∈ fs, lk x = true := fun ex => h (List.findIdx_lt_length.mpr ex)
  unfold pN
  rw [List.getElem?_eq_getElem il]
  intro q
  exact this ⟨fs[i], List.getElem_mem il, q⟩
theorem atI0 {x : Dv} {xs : List Dv} : atI (x :: xs) 0 = some x := atI_n (j := 0) rfl
theorem cut_from {xs : List Dv} {x : Dv} : Zl.cutD (x :: xs) (some 1) none = xs := by
  unfold Zl.cutD
  have h1 : HT.sIx (x :: xs).length 0 (some 1) = 1 := by unfold HT.sIx; simp
  have h2 : HT.sIx (x :: xs).length (x :: xs).length none = (x :: xs).length := rfl
  rw [h1, h2]
  simp
/-! ## the law's plain form -/
theorem sp_lawplain {t : Tb} {U O fs : List Stg} {told : List (Nat × List Nat)} {M : Mem} (ht : OkT t) (L : Look t U O fs told) (few : O.length ≤ 61) (sm : ∀ s ∈ O, s.2.length ≤ 3) :
    Wp (m__law_plain [tabD t] M) fun d M' => d = tabD (mkT (linesOf O) told) ∧ Kp NoW M M' := by
  obtain ⟨R, hS, h, hl⟩ := L.st
  have on : ∀ s ∈ O, ∀ x ∈ (gT t).go s, x ∈ O := fun s hs x hx => by
    obtain ⟨i, e⟩ := List.getElem?_of_mem hs
    exact (h.row i s (by have := (List.getElem?_eq_some_iff.mp e).1; omega) e).1 x hx
  have pos : 1 ≤ R.length := by have := (List.getElem?_eq_some_iff.mp h.first).1; omega
  refine wp_fn rfl [some (tabD t), none, none, none, none, none, none, none, none, none, none, none, none, none] rfl ?_
  unfold b__law_plain
  array_get_dec
  refine (sp_stages ht hS pos).go ?_
  rintro _ M1 ⟨f, g, rfl, hR, k1⟩
  array_get_dec
  refine (sp_unlike hR few on sm).go ?_
  rintro _ M2 ⟨n, us, rfl, hB, hU, k2⟩
  have hR2 := hR.kpN k2
  array_get_dec
  rename_i q M3 e3 g3 k3 l3 w M4 e4 g4 k4 l4
  have hR4 := (hR2.kpN k3).kpN k4
  have hB4 := (hB.kp k3 id).kp k4 id
  have q4 := k4.at g3 id
  refine wq_lockE rfl hR4.hf ?_
  have flt := lt_of hR4.hf
  have k5 : Kp (fun a => a = f) M4 (M4.set f (.lckN (enV (vR t g) O))) := .set fun _ => rfl
  have f5 : (M4.set f (.lckN (enV (vR t g) O)))[f]? = some (.lckN (enV (vR t g) O)) := at_set hR4.hf
  generalize M4.set f (.lckN (enV (vR t g) O)) = M5 at k5 f5
  refine wq_map (fun x => match x with | .tup [_, .tup xs] => .int (xs.length : Nat) | _ => .non) ?_
  refine wq_keysN ?_
  array_get_dec
  refine ⟨f, _, rfl, f5, ?_⟩
  rw [keysV]
  refine k_mapT (size_le (by rw [List.length_map]; omega)) ?_ ?_
  · intro y hy M6 k6
    obtain ⟨s, hs, rfl⟩ := List.mem_map.mp hy
    array_get_dec
    refine wp_ev (a := .tup (intsN s.2)) (M' := M6) rfl ?_
    array_get_dec
    exact ⟨rfl, .refl⟩
  · intro h6 M6 e6 l6 k6 g6
    array_get_dec
    have g6' : M6[h6]? = some (.lst (intsN (O.map fun s => s.2.length))) := by
      rw [g6, List.map_map]
      unfold intsN
      rw [List.map_map]
      refine congrArg (fun z => some (Ob.lst z)) (List.map_congr_left fun s _ => ?_)
      simp [stgD, intsN]
    have k7 := kp_back (k5.trN k6) hR4.hf
    have l5 := k5.1
    have g7 : (M6.set f (.dcn (enV (vR t g) O)))[h6]? = some (.lst (intsN (O.map fun s => s.2.length))) := at_set_ne g6' (by omega)
    have hR7 := hR4.kpN k7
    have hB7 := hB4.kp k7 id
    have q7 := k7.at q4 id
    have w7 := k7.at g4 id
    generalize M6.set f (.dcn (enV (vR t g) O)) = M7 at k7 g7 hR7 hB7 q7 w7
    refine wq_maxN g7 (by intro e; have := congrArg List.length e; rw [List.length_map, List.length_nil] at this; omega) ?_
    rw [show (O.map fun s => s.2.length).foldl max 0 = linesOf O from rfl]
    array_get_dec
    obtain ⟨lk, elk⟩ : ∃ lk : Stg → Stg → Bool, lk = fun a b => !decide ((a, b) ∈ us) := ⟨_, rfl⟩
    have hlaw := L.law lk (fun a ha b hb => by rw [elk, ← hU a ha b hb]; simp)
    have qf : f < q := by have := lt_of hR2.hf; omega
    have zero : (0, []) ∈ O := List.mem_of_getElem? h.first
    refine wp_whileI (fun m env M' => ∃ (x7 x8 x9 x10 x11 : Option Dv) (fs' : List Stg) (told' : List (Nat × List Nat)),
      env = [some (tabD t), some (.loc f), some (.loc n), some (.loc q), some (.int (told'.length : Nat)), some (.loc w), some (.int (linesOf O : Nat)), x7, x8, x9, x10, x11, none, none] ∧
      M'[q]? = some (.lst (fs'.map stgD)) ∧ M'[w]? = some (.lst ((told'.zipIdx.map (mkRow (linesOf O))).map rowD)) ∧ lawG (gT t) lk m fs' told' = some (fs, told) ∧ (∀ s ∈ fs', s ∈ O) ∧ told'.length ≤ fs'.length ∧ Kp (fun a => a = q ∨ a = w) M7 M') ?_ 1000000 2000 _ M7 (by omega)
      ⟨none, none, none, none, none, [(0, [])], [], rfl, q7, w7, hlaw, fun s hs => by rw [List.mem_singleton.mp hs]; exact zero, by simp, .refl⟩
    rintro m env M8 ⟨x7, x8, x9, x10, x11, fs', told', rfl, a1, a2, hm, sub, le, kk⟩
    have few' : fs'.length ≤ 61 := by have := lawG_len m hm; have := L.few; omega
    array_get_dec
    by_cases hl2 : told'.length < fs'.length
    · rw [decide_eq_true (by rw [List.length_map]; exact_mod_cast hl2)]
      refine (show Wp _ _ from ?_)
      cases m with
      | zero => cases hm
      | succ m =>
        have es : fs'[told'.length]? = some fs'[told'.length] := List.getElem?_eq_getElem hl2
        unfold lawG at hm
        rw [es] at hm
        dsimp only at hm
        have hs := sub _ (List.mem_of_getElem? es)
        generalize fs'[told'.length] = s at es hm hs
        have es' : (fs'.map stgD)[told'.length]? = some (stgD s) := by rw [List.getElem?_map, es]; rfl
        have vs : valN (enV (vR t g) O) (stgK s) = some (vR t g s) := by rw [val_enV, if_pos hs]
        have gs2 := lt_of (hR2.hg s hs)
        have n2 : n < M2.length := by rcases hB with ⟨_, z⟩ | z <;> exact lt_of z
        have f8 := kk.at hR7.hf (by show ¬ (f = q ∨ f = w); omega)
        have gs8 := kk.at (hR7.hg s hs) (by show ¬ (g s = q ∨ g s = w); omega)
        have hB8 := hB7.kp kk (by show ¬ (n = q ∨ n = w); omega)
        array_get_dec
        refine wp_ixN f8 (key_stg s) vs ?_
        unfold vR
        array_get_dec
        rename_i u M9 e9 g9 k9 l9
        have gol := go_len (t := t) (s := s)
        have sm3 := sm s hs
        have M8q := lt_of a1
        have M8w := lt_of a2
        have M8n := kk.1
        have M8f := lt_of f8
        have M8g := lt_of gs8
        have nM8 : n < M8.length := by omega
        refine wq_for (fun i env M' => ∃ (x10 x11 : Option Dv), env = [some (tabD t), some (.loc f), some (.loc n), some (.loc q), some (.int (told'.length : Nat)), some (.loc w), some (.int (linesOf O : Nat)), some (.int ((afterMiss t s).1 : Nat)), some (.loc (g s)), some (.loc u), x10, x11, none, none] ∧
          M'[g s]? = some (.lst (((gT t).go s).map stgD)) ∧ M'[q]? = some (.lst ((numL lk fs' (((gT t).go s).take i)).2.map stgD)) ∧ M'[u]? = some (.lst (intsN (numL lk fs' (((gT t).go s).take i)).1)) ∧ (∀ s' ∈ (numL lk fs' (((gT t).go s).take i)).2, s' ∈ O) ∧ Kp (fun a => a = q ∨ a = u) M9 M') ?_
        array_get_dec
        refine k_forL (fun i env M' hh => by obtain ⟨_, _, _, h, _⟩ := hh; exact h) ⟨x10, x11, rfl, k9.at gs8 id, k9.at a1 id, g9, sub, .refl⟩ ?_ ?_
        · rintro i d env MA hd ⟨y10, y11, rfl, b1, b2, b3, b4, b5⟩
          have hi : i < ((gT t).go s).length := by have := (List.getElem?_eq_some_iff.mp hd).1; simpa using this
          have ei : ((gT t).go s)[i]? = some ((gT t).go s)[i] := List.getElem?_eq_getElem hi
          have ed : d = stgD ((gT t).go s)[i] := by rw [List.getElem?_map, ei] at hd; cases hd; rfl
          subst ed
          have hz := on s hs _ (List.mem_of_getElem? ei)
          have nl := numL_len (lk := lk) (((gT t).go s).take i) fs'
          rw [List.length_take] at nl
          rw [take_succ_of ei, numL_app]
          have hBA := (hB8.kp k9 id).kp b5 (by show ¬ (n = q ∨ n = u); omega)
          generalize (numL lk fs' (((gT t).go s).take i)) = FN at *
          generalize ((gT t).go s)[i] = z at *
          obtain ⟨ns, F⟩ := FN
          dsimp only at b2 b3 b4 nl ⊢
          array_get_dec
          refine wq_lcG (fun j => pN (fun y => lk z y) F j) (fun j => .int (j : Nat)) ?_
          array_get_dec
          refine ⟨by rw [List.length_map]; omega, by show (F.map stgD).length ≤ _; rw [List.length_map]; omega, fun j M' k' hj => ?_, fun M' k' => rng_end, fun h MB eB lB kB gB => ?_⟩
          · have hj' : j < F.length := by have : j < (F.map stgD).length := hj; simpa using this
            refine ⟨.int (j : Nat), rng_go hj, ?_⟩
            have ej : (F.map stgD)[j]? = some (stgD F[j]) := by rw [List.getElem?_map, List.getElem?_eq_getElem hj']; rfl
            have b2' := k'.at b2 id
            array_get_dec
            refine in_enB (x := (z, F[j])) (hBA.kp k' id) (key_pr (z, F[j])) ?_
            array_get_dec
            refine ⟨?_, .refl, fun _ => ?_⟩
            · show _ = pN (fun y => lk z y) F j
              unfold pN
              rw [List.getElem?_eq_getElem hj', elk]
              show (true ^^ decide ((z, F[j]) ∈ us)) = !decide ((z, F[j]) ∈ us)
              exact Bool.true_xor _
            · array_get_dec
              exact ⟨rfl, .refl⟩
          have gB : MB[h]? = some (.lst (intsN ((List.range F.length).filter (pN (fun y => lk z y) F)))) := by
            have e : (F.map stgD).length = F.length := List.length_map ..
            rw [← e]; exact gB
          have c1 := kB.at b1 id
          have c2 := kB.at b2 id
          have c3 := kB.at b3 id
          have MAq := lt_of b2
          have MAu := lt_of b3
          have MAg := lt_of b1
          by_cases hf : F.findIdx (fun y => lk z y) < F.length
          · obtain ⟨r, er⟩ := filt_find hf
            rw [er] at gB
            have n1 : num1 lk F z = (F.findIdx (fun y => lk z y), F) := by unfold num1; rw [if_pos hf]
            have rl : ∀ x ∈ F.findIdx (fun y => lk z y) :: r, x ≤ 3000 := fun x hx => by
              rw [← er] at hx
              have := List.mem_range.mp (List.mem_filter.mp hx).1
              omega
            rw [n1]
            array_get_dec
            rename_i nC MC eC gC kC lC
            refine wq_eqS (k := 1) (k' := 1) (p := .list (natsP (F.findIdx (fun y => lk z y) :: r))) (q := .list []) (by apply rd_loc (kC.at gB id); exact rd_nats _) (by apply rd_loc gC; exact rdL_nil) (sm_list (smA_nats rl)) (sm_list (smA_nil (n := 0))) (by decide) (by decide) ?_
            array_get_dec
            refine ki_of (c := false) rfl ?_
            array_get_dec
            have c3' := kC.at c3 id
            refine wp_ixL (kC.at gB id) (atI0 (x := .int ((F.findIdx (fun y => lk z y) : Nat) : Int)) (xs := intsN r)) ?_
            array_get_dec
            refine wq_append c3' (size_lt (by unfold intsN; rw [List.length_map]; omega)) ?_
            array_get_dec
            rename_i MD gD kD lD
            refine ⟨_, _, rfl, kD.at (kC.at c1 id) (by show ¬ g s = u; omega), kD.at (kC.at c2 id) (by show ¬ q = u; omega), ?_, b4, ((b5.trN kB).trN kC).trans kD fun m _ e => .inr e⟩
            rw [gD]
            simp [intsN]
          · rw [filt_none hf] at gB
            have n1 : num1 lk F z = (F.findIdx (fun y => lk z y), F ++ [z]) := by unfold num1; rw [if_neg hf]
            have fl : F.findIdx (fun y => lk z y) = F.length := by have := List.findIdx_le_length (xs := F) (p := fun y => lk z y); omega
            rw [n1, fl]
            array_get_dec
            rename_i nC MC eC gC kC lC
            refine wq_eqS (k := 1) (k' := 1) (p := .list []) (q := .list []) (by apply rd_loc (kC.at gB id); exact rdL_nil) (by apply rd_loc gC; exact rdL_nil) (sm_list (smA_nil (n := 0))) (sm_list (smA_nil (n := 0))) (by decide) (by decide) ?_
            array_get_dec
            refine ki_of (c := true) rfl ?_
            array_get_dec
            have c2' := kC.at c2 id
            refine wq_append c2' (size_lt (by rw [List.length_map]; omega)) ?_
            array_get_dec
            rename_i MD gD kD lD nE ME eE gE kE lE
            have c3' := kE.at (kD.at (kC.at c3 id) (by show ¬ u = q; omega)) id
            refine wq_append c3' (size_lt (by unfold intsN; rw [List.length_map]; omega)) ?_
            array_get_dec
            rename_i MF gF kF lF
            refine ⟨_, _, rfl, kF.at (kE.at (kD.at (kC.at c1 id) (by show ¬ g s = q; omega)) id) (by show ¬ g s = u; omega), ?_, ?_, fun y hy => ?_, ((((b5.trN kB).trN kC).trans kD fun m _ e => .inl e).trN kE).trans kF fun m _ e => .inr e⟩
            · rw [kF.at (kE.at gD id) (by show ¬ q = u; omega), List.map_append]; rfl
            · rw [gF]
              simp [intsN]
            · rcases List.mem_append.mp hy with hy | hy
              · exact b4 y hy
              · rw [List.mem_singleton.mp hy]; exact hz
        · rintro env MA ⟨y10, y11, rfl, b1, b2, b3, b4, b5⟩
          rw [List.length_map, List.take_length] at b2 b3 b4
          have nl := numL_len (lk := lk) ((gT t).go s) fs'
          generalize hFN : numL lk fs' ((gT t).go s) = FN at *
          obtain ⟨ns, F⟩ := FN
          dsimp only at b2 b3 b4 nl hm
          cases ns with
          | nil => exact absurd nl.2.2 (by simp; omega)
          | cons n0 ns =>
            have gu := b3
            array_get_dec
            refine wp_ixL gu (atI0 (x := .int (n0 : Nat)) (xs := intsN ns)) ?_
            array_get_dec
            rename_i nC MC eC gC kC lC nD MD eD gD kD lD
            have lg := lines_ge hs
            have nl3 : ns.length + 1 = s.2.length + 1 := by have := nl.2.2; rw [gol] at this; exact this
            have li : (intsN (n0 :: ns)).length = ns.length + 1 := by simp [intsN]
            have L3 : linesOf O ≤ 3 := lines_le fun s hs => sm s hs
            rw [show intsN (n0 :: ns) = Dv.int (n0 : Nat) :: intsN ns from rfl, cut_from] at gC
            rw [show ((linesOf O : Nat) : Int) + 1 - ((intsN (n0 :: ns)).length : Nat) = ((linesOf O + 1 - (ns.length + 1) : Nat) : Int) by rw [li]; omega]
            refine wq_mulL gD (by simp) (by omega) ?_
            array_get_dec
            rename_i nE ME eE gE kE lE
            have re : (List.replicate (linesOf O + 1 - (ns.length + 1)) [Dv.int (told'.length : Nat)]).flatten = intsN (List.replicate (linesOf O + 1 - (ns.length + 1)) told'.length) := by
              unfold intsN
              rw [List.map_replicate]
              generalize linesOf O + 1 - (ns.length + 1) = k
              induction k with
              | zero => rfl
              | succ k ih => rw [List.replicate_succ, List.replicate_succ, List.flatten_cons, ih]; rfl
            rw [re] at gE
            refine wq_addL (kE.at (kD.at gC id) id) gE (by simp only [intsN, List.length_map, List.length_replicate]; omega) ?_
            array_get_dec
            rename_i nF MF eF gF kF lF
            have w9 := b5.at (k9.at a2 id) (by show ¬ (w = q ∨ w = u); have := lt_of w7; omega)
            have wF := kF.at (kE.at (kD.at (kC.at w9 id) id) id) id
            refine wq_append wF (size_lt (by rw [List.length_map, List.length_map, List.length_zipIdx]; omega)) ?_
            array_get_dec
            rename_i MG gG kG lG
            have lF := lawG_len m hm
            have Mq : ¬ q = w := by omega
            have kG' : Kp (fun a => a = q ∨ a = w) M8 MG := ((((((Kp.refl (W := fun a => a = q ∨ a = w)).trN k9).trans b5 fun a ha e => ?_).trN kC).trN kD).trN kE).trN kF |>.trans kG fun a _ e => .inr e
            refine ⟨m, by omega, some (.int ((afterMiss t s).1 : Nat)), some (.loc (g s)), some (.loc u), y10, y11, F, told' ++ [((gT t).pl s, n0 :: ns)], ?_, ?_, ?_, hm, b4, ?_, kk.tr kG'⟩
            · rw [List.length_append]; rfl
            · exact kG.at (kF.at (kE.at (kD.at (kC.at b2 id) id) id) id) Mq
            · rw [gG, List.zipIdx_append, List.map_append, List.map_append]
              have er : rowD (mkRow (linesOf O) (((gT t).pl s, n0 :: ns), told'.length)) = .tup [.int ((afterMiss t s).1 : Nat), .int (n0 : Nat), .tup (intsN ns ++ intsN (List.replicate (linesOf O + 1 - (ns.length + 1)) told'.length))] := by
                unfold rowD mkRow intsN
                rw [← List.map_append]
                rfl
              rw [← er]
              simp
            · rw [List.length_append, List.length_singleton]; omega
            · have e' : a = q ∨ a = u := e
              rcases e' with e' | e'
              · exact .inl e'
              · omega
    · have e : fs'[told'.length]? = none := List.getElem?_eq_none (by omega)
      rw [decide_eq_false (by rw [List.length_map]; exact_mod_cast hl2)]
      refine (show kSeq _ _ _ _ from ?_)
      have fin : fs' = fs ∧ told' = told := by
        cases m with
        | zero => cases hm
        | succ m =>
          unfold lawG at hm
          rw [e] at hm
          cases hm
          exact ⟨rfl, rfl⟩
      obtain ⟨rfl, rfl⟩ := fin
      array_get_dec
      refine ⟨rfl, ((((k1.tr k2).tr k3).tr k4).tr k7).trans kk fun m hm e => ?_⟩
      have e' : m = q ∨ m = w := e
      have := k1.1
      have := k2.1
      omega
end L55

/-! text D14_55 -/
namespace L55
open PySem L2 PySem.Spec PyProof.Rows Zl
/-! ## tables as data -/
def intsP (o : List Nat) : List PyData := o.map fun n => PyData.int (n : Nat)
theorem rd_intsP {M : Mem} {k : Nat} : ∀ o : List Nat, rdL (rd M k) (intsN o) = some (intsP o)
  | [] => rfl
  | n :: o => rdL_cons (by cases k <;> rfl) (rd_intsP o)
def rowP (r : Row) : PyData := .tuple [.int (r.v : Nat), .int (r.s : Nat), .tuple (intsP r.hits)]
def tabP (t : Tb) : PyData := .tuple [.int (t.l : Nat), .tuple (t.rows.map rowP)]
theorem rd_row {M : Mem} {k : Nat} {r : Row} : rd M (k + 2) (rowD r) = some (rowP r) :=
  rd_tup (rdL_cons rfl (rdL_cons rfl (rdL_cons (rd_tup (rd_intsP _)) rdL_nil)))
theorem rd_rows {M : Mem} {k : Nat} : ∀ rs : List Row, rdL (rd M (k + 2)) (rs.map rowD) = some (rs.map rowP)
  | [] => rfl
  | _ :: rs => rdL_cons rd_row (rd_rows rs)
theorem rd_tab {M : Mem} {k : Nat} {t : Tb} : rd M (k + 4) (tabD t) = some (tabP t) :=
  rd_tup (rdL_cons rfl (rdL_cons (rd_tup (rd_rows _)) rdL_nil))
theorem sm_ints {k n : Nat} {o : List Nat} (h : ∀ x ∈ o, x ≤ 3000) (hl : o.length ≤ n) : Sm (k + 1) (n + n) (.tuple (intsP o)) := by
  have := smA_all (k := k) (n := 1) (ps := intsP o) fun p hp => by
    obtain ⟨x, hx, rfl⟩ := List.mem_map.mp hp
    exact sm_nat (h x hx)
  refine (sm_tuple this).mono (Nat.le_refl _) ?_
  unfold intsP
  rw [List.length_map]
  omega
theorem sm_row {l n : Nat} {r : Row} (h : OkR l n r) (hl : l ≤ 4) (hn : n ≤ 64) : Sm 2 20 (rowP r) := by
  obtain ⟨h1, h2, h3, h4⟩ := h
  exact (sm_tuple (smA_cons (sm_nat (k := 1) (n := 1) (by omega)) (smA_cons (sm_nat (k := 1) (n := 1) (by omega)) (smA_cons (sm_ints (k := 0) (n := 4) (fun x hx => by have := h4 x hx; omega) (by omega)) (smA_nil (n := 0)))))).mono (by omega) (by omega)
theorem sm_tab {t : Tb} (h : OkT t) : Sm 4 2000 (tabP t) := by
  have hr := smA_all (k := 2) (n := 20) (ps := t.rows.map rowP) fun p hp => by
    obtain ⟨r, hr, rfl⟩ := List.mem_map.mp hp
    exact sm_row (h.ok r hr) h.l4 h.r64
  have h4 := h.l4
  have h64 := h.r64
  refine (sm_tuple (smA_cons (sm_nat (k := 3) (n := 1) (by omega)) (smA_cons (sm_tuple hr) (smA_nil (n := 0))))).mono (by omega) ?_
  rw [List.length_map]
  omega
def shT (t : Tb) : Str := (tabP t).shown
theorem wq_shT {t : Tb} {M : Mem} {q : QE} (h : OkT t) (c : q (.str (shT t)) M) : Wp (reprE [tabD t] M) q :=
  wq_repr (x := .tup [.int (t.l : Nat), .tup (t.rows.map rowD)]) rfl (rd_tab (k := 26)) (sm_tab h) (by omega) (by omega) c
end L55

/-! text I12_55 -/
namespace L55
open PySem L2 PySem.Spec PyProof.Rows Zl
theorem pln_ints (o : List Nat) : plnA (intsP o) = true := plnA_of fun x hx => by
  obtain ⟨n, _, rfl⟩ := List.mem_map.mp hx
  rfl
theorem pln_row (r : Row) : plnB (rowP r) = true := by
  unfold rowP plnB plnA
  rw [show plnB (.int (r.v : Nat)) = true from rfl, Bool.true_and]
  unfold plnA
  rw [show plnB (.int (r.s : Nat)) = true from rfl, Bool.true_and]
  unfold plnA
  rw [show plnB (.tuple (intsP r.hits)) = true from by unfold plnB; exact pln_ints _, Bool.true_and]
  rfl
theorem pln_tab (t : Tb) : plnB (tabP t) = true := by
  unfold tabP plnB plnA
  rw [show plnB (.int (t.l : Nat)) = true from rfl, Bool.true_and]
  unfold plnA
  rw [show plnB (.tuple (t.rows.map rowP)) = true from by
    unfold plnB
    exact plnA_of fun x hx => by
      obtain ⟨r, _, rfl⟩ := List.mem_map.mp hx
      exact pln_row r, Bool.true_and]
  rfl
theorem sp_asked {t : Tb} {M : Mem} (hS : Small t) : Wp (m__law_asked [tabD t] M) fun d M' => d = .bl true ∧ Kp NoW M M' := by
  obtain ⟨U, O, fs, told, L, few, sm, ok', p1, p2⟩ := small_look hS
  have ht := hS.1
  refine wp_fn rfl [some (tabD t), none, none, none] rfl ?_
  unfold b__law_asked
  array_get_dec
  refine (sp_lawplain ht L few fun s hs => (sm s hs).1).go ?_
  rintro _ M1 ⟨rfl, k1⟩
  generalize mkT (linesOf O) told = t' at *
  array_get_dec
  refine wq_shT ok' ?_
  array_get_dec
  refine wq_shT ht ?_
  array_get_dec
  refine (sp_plain ht p1).go ?_
  rintro _ M2 ⟨rfl, k2⟩
  array_get_dec
  refine wq_shT ok' ?_
  array_get_dec
  refine (sp_plain ok' p2).go ?_
  rintro _ M3 ⟨rfl, k3⟩
  array_get_dec
  refine wq_shT ok' ?_
  array_get_dec
  refine wp_callK ?_
  array_get_dec
  refine ⟨⟨rfl, rfl⟩, ?_⟩
  refine (sp_plain ht p1).go ?_
  rintro _ M4 ⟨rfl, k4⟩
  array_get_dec
  refine wq_shT ok' ?_
  array_get_dec
  refine wq_shT ht ?_
  array_get_dec
  rename_i nA MA eA gA kA lA nB MB eB gB kB lB
  refine wq_eqStrs (ss := [shT t', shT t', shT t', shT t]) (kB.at gA id) gB (fun s hs => ?_) ?_
  · simp only [List.mem_cons, List.not_mem_nil, or_false] at hs
    rcases hs with rfl | rfl | rfl | rfl <;> exact shown_ok (pln_tab _)
  array_get_dec
  exact ⟨rfl, (((((k1.trN k2).trN k3).trN k4).trN kA).trN kB)⟩
end L55

/-! text A1_55 -/
namespace L55
open PySem L2 PySem.Spec PyProof.Rows Zl
/-! tables -/
theorem sp_policyL {p : Nat} {l s : Nat} {M : Mem} (h : Pool p M) (hl : 1 ≤ l) (hl4 : l ≤ 4) (hs : 1 ≤ s) (hs2 : s ≤ 64) :
    Wp (m__law_policy [.loc p, .int (l : Nat), .int (s : Nat)] M) fun d M' => (∃ t, d = tabD t ∧ OkT t ∧ t.l = l ∧ t.rows.length = s) ∧ Pool p M' ∧ Kp (At p) M M' := by
  have hp := h.lt
  refine wp_fn rfl [some (.loc p), some (.int (l : Nat)), some (.int (s : Nat)), none, none, none, none] rfl ?_
  unfold b__law_policy
  clean_wf
  refine wp_for (fun i env M' => ∃ (x4 x5 : Option Dv) (rows : List Row), env = [some (.loc p), some (.int (l : Nat)), some (.int (s : Nat)), some (.loc M.length), x4, x5, none] ∧ rows.length = i ∧ M'[M.length]? = some (.lst (rows.map rowD)) ∧ (∀ r ∈ rows, OkR l s r) ∧ Pool p M' ∧ Kp (At p) M M') ?_
  clean_wf
  refine ⟨_, rfl, by omega, ⟨none, none, [], rfl, rfl, at_new, fun r hr => by simp at hr, h.app, .app _⟩, ?_, ?_⟩
  · rintro i env M' hi ⟨x4, x5, rows, rfl, h1, h2, h3, h4, h5⟩
    refine ⟨_, rng_go hi, ?_⟩
    clean_wf
    refine wp_lc (fun _ y => ∃ r : Nat, y = Dv.int r ∧ (r : Int) < s) (At p) (Pool p) ?_
    clean_wf
    refine ⟨_, rfl, by omega, intsR l, intsR_len.symm, by rw [intsR_len]; show _ ≤ 2 ^ 24; omega, ?_, fun i M' _ _ _ => rng_stp, h4.app, fun M' a b hh _ => hh.keep ?_, ?_, ?_⟩
    · have := h4.lt; intro e; omega
    · have := h4.lt; omega
    · intro x hx M2 hk hl2 hj
      clean_wf
      refine (sp_draw hj (by omega) (by omega)).go fun d M3 ⟨a, b, c⟩ => ⟨a, c, b⟩
    · intro ys M2 ha hk hj hy
      obtain ⟨ns, rfl, n1, n2⟩ := nats_of ha
      have n1' : ns.length = l := n1.trans intsR_len
      have g2 := hk.at h2 (by omega)
      clean_wf
      refine wp_tupL hy ?_
      clean_wf
      refine ⟨ty_lst g2, ?_⟩
      clean_wf
      refine (sp_draw hj (by omega) (by omega)).go fun d1 M3 ⟨⟨r1, e1, f1⟩, b1, c1⟩ => ?_
      subst e1
      clean_wf
      refine (sp_draw b1 (by omega) (by omega)).go fun d2 M4 ⟨⟨r2, e2, f2⟩, b2, c2⟩ => ?_
      subst e2
      clean_wf
      have g4 := c2.at (c1.at g2 (by omega)) (by omega)
      refine wp_append g4 (by simp [h1]; show _ < 2 ^ 24; have : i < s := hi; omega) ?_
      clean_wf
      refine ⟨_, _, rows ++ [⟨r1, r2, ns⟩], rfl, by simp [h1], ?_, ?_, b2.keep (by omega), ?_⟩
      · rw [at_set g4, List.map_append]; rfl
      · intro r hr
        rcases List.mem_append.mp hr with hr | hr
        · exact h3 r hr
        · have e : r = ⟨r1, r2, ns⟩ := by simpa using hr
          subst e
          exact ⟨by show r1 < l; omega, by show r2 < s; omega, n1', n2⟩
      · exact (((h5.tr hk).tr c1).tr c2).trans (Kp.set (W := fun n => n = M.length) fun _ => rfl) (fun n hn e => by omega)
  · rintro env M' ⟨x4, x5, rows, rfl, h1, h2, h3, h4, h5⟩
    refine ⟨rng_end, ?_⟩
    clean_wf
    refine wp_tupL h2 ?_
    clean_wf
    have e : rows.length = s := h1
    exact ⟨⟨⟨l, rows⟩, rfl, ⟨hl, hl4, by show 1 ≤ rows.length; omega, by show rows.length ≤ 64; omega, fun r hr => by rw [show (Tb.mk l rows).rows.length = s from e]; exact h3 r hr⟩, rfl, e⟩, h4, h5⟩
theorem sp_policy {p : Nat} {l s : Nat} {M : Mem} (h : Pool p M) (hl : 1 ≤ l) (hl4 : l ≤ 4) (hs : 1 ≤ s) (hs2 : s ≤ 64) :
    Wp (m__law_policy [.loc p, .int (l : Nat), .int (s : Nat)] M) fun d M' => (∃ t, d = tabD t ∧ OkT t) ∧ Pool p M' ∧ Kp (At p) M M' :=
  (sp_policyL h hl hl4 hs hs2).go fun d M' ⟨⟨t, e, ok, _⟩, b, c⟩ => ⟨⟨t, e, ok⟩, b, c⟩
end L55

/-! text A3_55 -/
namespace L55
open PySem L2 PySem.Spec PyProof.Rows Zl
/-! the queue -/
def queueT (l : Nat) : Tb := ⟨l, (List.range l).map fun a => ⟨a, (a + 1) % l, List.replicate l a⟩⟩
theorem rep_tup {l a : Nat} : (List.replicate l [Dv.int (a : Nat)]).flatten = intsN (List.replicate l a) := by
  induction l with
  | zero => rfl
  | succ n ih => rw [List.replicate_succ, List.flatten_cons, ih]; rfl
theorem sp_queue {l : Nat} {M : Mem} (hl : 1 ≤ l) (hl4 : l ≤ 4) : Wp (m__law_queue [.int (l : Nat)] M) fun d M' => d = tabD (queueT l) ∧ Kp NoW M M' := by
  refine wp_fn rfl [some (.int (l : Nat)), none] rfl ?_
  unfold b__law_queue
  simp_wf
  refine wp_lcP (fun x => match x with | .int i => rowD ⟨i.toNat, (i.toNat + 1) % l, List.replicate l i.toNat⟩ | _ => .non) ?_
  simp_wf
  refine ⟨_, rfl, by omega, intsR l, intsR_len.symm, by rw [intsR_len]; show _ ≤ 2 ^ 24; omega, fun i M' _ _ => rng_stp, ?_, ?_⟩
  · intro x hx M1 k1
    obtain ⟨a, ha, rfl⟩ := List.mem_map.mp hx
    simp_wf
    refine wp_modI (by omega) ?_
    simp_wf
    refine wp_mulT (by show 1 * _ ≤ _; omega) (by omega) ?_
    simp_wf
    refine ⟨?_, .refl⟩
    simp only [Int.toNat_natCast, rep_tup, rowD]
    rfl
  · intro M1 k1 g1
    simp_wf
    refine wp_tupL g1 ?_
    simp_wf
    refine ⟨?_, k1⟩
    simp only [tabD, queueT, intsR, List.map_map]
    congr 3
theorem queue_ok {l : Nat} (hl : 1 ≤ l) (hl4 : l ≤ 4) : OkT (queueT l) := by
  refine ⟨hl, hl4, by simpa [queueT] using hl, by simp [queueT]; omega, fun r hr => ?_⟩
  obtain ⟨a, ha, rfl⟩ := List.mem_map.mp hr
  have ha' : a < l := by simpa using ha
  refine ⟨ha', by simp only [queueT, List.length_map, List.length_range]; exact Nat.mod_lt _ (by omega), by simp [queueT], fun h hh => ?_⟩
  have : h = a := (List.mem_replicate.mp hh).2
  subst this
  simpa [queueT] using ha'
/-! the least recently used -/
def goalsN (l : Nat) (here : List Nat) : List (List Nat) := (List.range l).map fun line => (here.filter fun s => s != line) ++ [line]
def nextN (l i : Nat) (p : List (List Nat) × List Row) : List (List Nat) × List Row :=
  let here := p.1.getD i []
  let gs := goalsN l here
  let os := p.1 ++ gs.filter fun g => !p.1.contains g
  (os, p.2 ++ [⟨here.headD 0, os.idxOf (gs.getD (here.headD 0) []), gs.map os.idxOf⟩])
def recN (l : Nat) : Nat → List (List Nat) × List Row
  | 0 => ([List.range l], [])
  | i + 1 => nextN l i (recN l i)
def factN : Nat → Nat
  | 1 => 1
  | 2 => 2
  | 3 => 6
  | _ => 24
def recT (l : Nat) : Tb := ⟨l, (recN l (factN l)).2⟩
def ordD (o : List Nat) : Dv := .tup (intsN o)
def ordP (o : List Nat) : PyData := .tuple (o.map fun n => .int (n : Nat))
theorem rd_ints {M : Mem} {k : Nat} : ∀ o : List Nat, rdL (rd M k) (intsN o) = some (o.map fun n => PyData.int (n : Nat))
  | [] => rfl
  | n :: o => by
    show (match rd M k (.int (n : Nat)) with | none => none | some p => match rdL (rd M k) (intsN o) with | none => none | some ps => some (p :: ps)) = _
    rw [rd_ints o]
    cases k <;> rfl
theorem rd_ord {M : Mem} (o : List Nat) : rd M deep (ordD o) = some (ordP o) := by
  show (match rdL (rd M 29) (intsN o) with | some ps => some (PyData.tuple ps) | none => none) = _
  rw [rd_ints]; rfl
theorem rd_ords {M : Mem} : ∀ os : List (List Nat), rdL (rd M deep) (os.map ordD) = some (os.map ordP)
  | [] => rfl
  | o :: os => by
    show (match rd M deep (ordD o) with | none => none | some p => match rdL (rd M deep) (os.map ordD) with | none => none | some ps => some (p :: ps)) = _
    rw [rd_ord, rd_ords os]; rfl
theorem lay_ints : ∀ o : List Nat, PyData.canLayAll0 (o.map fun n => PyData.int (n : Nat)) = true ∧ PyData.depthAll (o.map fun n => PyData.int (n : Nat)) = 0
  | [] => ⟨rfl, rfl⟩
  | n :: o => by
    obtain ⟨h1, h2⟩ := lay_ints o
    refine ⟨?_, ?_⟩
    · rw [List.map_cons]; unfold PyData.canLayAll0; rw [h1]; rfl
    · rw [List.map_cons]; unfold PyData.depthAll; rw [h2]; rfl
theorem lay_ord (o : List Nat) : (ordP o).canLay0 = true ∧ (ordP o).depth = 1 := by
  obtain ⟨h1, h2⟩ := lay_ints o
  unfold ordP
  refine ⟨by unfold PyData.canLay0; exact h1, by unfold PyData.depth; rw [h2]⟩
theorem shaped_ord (o : List Nat) : SeqAt.shaped (ordP o) = true := by
  obtain ⟨h1, h2⟩ := lay_ord o
  unfold SeqAt.shaped
  rw [h1, h2]; rfl
theorem lay_ords : ∀ os : List (List Nat), PyData.canLayAll0 (os.map ordP) = true ∧ PyData.depthAll (os.map ordP) ≤ 1
  | [] => ⟨rfl, by decide⟩
  | o :: os => by
    obtain ⟨h1, h2⟩ := lay_ords os
    obtain ⟨h3, h4⟩ := lay_ord o
    refine ⟨?_, ?_⟩
    · rw [List.map_cons]; unfold PyData.canLayAll0; rw [h1, h3]; rfl
    · rw [List.map_cons]; unfold PyData.depthAll; rw [h4]; omega
theorem shaped_ords (os : List (List Nat)) : SeqAt.shaped (.list (os.map ordP)) = true := by
  obtain ⟨h1, h2⟩ := lay_ords os
  unfold SeqAt.shaped
  unfold PyData.canLay0 PyData.depth
  rw [h1, Bool.true_and, decide_eq_true_eq]; omega
theorem eqv_ints : ∀ a b : List Nat, PyData.eqvAll (a.map fun n => PyData.int (n : Nat)) (b.map fun n => PyData.int (n : Nat)) = (a == b)
  | [], [] => rfl
  | [], _ :: _ => rfl
  | _ :: _, [] => rfl
  | x :: a, y :: b => by
    rw [List.map_cons, List.map_cons]
    unfold PyData.eqvAll
    rw [eqv_ints a b]
    unfold PyData.eqv
    rw [List.cons_beq_cons]
    congr 1
    by_cases h : x = y
    · subst h; simp
    · have h2 : ¬ ((x : Int) = (y : Int)) := by omega
      rw [beq_eq_false_iff_ne.mpr h, beq_eq_false_iff_ne.mpr h2]
theorem eqv_ord (a b : List Nat) : PyData.eqv (ordP a) (ordP b) = (a == b) := by
  unfold ordP PyData.eqv
  exact eqv_ints a b
theorem wp_notin {M : Mem} {n : Nat} {g : List Nat} {os : List (List Nat)} {q : QE} (h : M[n]? = some (.lst (os.map ordD))) (k : q (.bl (!os.contains g)) M) : Wp (inE true (ordD g) (.loc n) M) q := by
  refine wp_ev ?_ k
  unfold inE; simp only [h]; unfold inD
  simp only [h]
  rw [if_neg (by simp [ordD, flatD]), rd_ord, rd_ords]
  simp only
  rw [if_pos ⟨shaped_ord g, shaped_ords os⟩]
  congr 4
  rw [Bool.true_xor]
  congr 1
  rw [List.any_map, List.contains_eq_any_beq]
  congr 1
  funext z
  show PyData.eqv (ordP z) (ordP g) = _
  rw [eqv_ord]
  by_cases e : z = g
  · subst e; simp
  · rw [beq_eq_false_iff_ne.mpr e, beq_eq_false_iff_ne.mpr (Ne.symm e)]
theorem wp_index {M : Mem} {n : Nat} {g : List Nat} {os : List (List Nat)} {q : QE} (h : M[n]? = some (.lst (os.map ordD))) (hg : g ∈ os) (k : q (.int (os.idxOf g : Nat)) M) : Wp (indexD (.loc n) [ordD g] M) q := by
  refine wp_ev ?_ k
  unfold indexD
  simp only [h]
  rw [if_neg (by simp [ordD, flatD]), rd_ord, rd_ords]
  simp only
  rw [if_pos ⟨shaped_ord g, shaped_ords os⟩]
  have e : (os.map ordP).findIdx? (fun z => PyData.eqv z (ordP g)) = some (os.idxOf g) := by
    rw [List.findIdx?_map]
    have e1 : ((fun z => PyData.eqv z (ordP g)) ∘ ordP) = fun z => z == g := by funext z; exact eqv_ord z g
    rw [e1]
    show os.findIdx? (fun z => z == g) = some (os.idxOf g)
    have e2 : os.findIdx (fun z => z == g) < os.length := List.findIdx_lt_length_of_exists ⟨g, hg, by simp⟩
    rw [List.findIdx?_eq_some_iff_findIdx_eq]
    exact ⟨e2, rfl⟩
  rw [e]

def unN (ys : List Dv) : List Nat := ys.map fun y => match y with
  | .int z => z.toNat
  | _ => 0
theorem unN_ints : ∀ o : List Nat, unN (intsN o) = o
  | [] => rfl
  | n :: o => by
    have := unN_ints o
    unfold unN intsN at this ⊢
    rw [List.map_cons, List.map_cons, this]
    simp
theorem map_ord {xs : List Nat} : ordD xs = .tup (intsN xs) := rfl
theorem sp_recent {l : Nat} {M : Mem} (hl : 1 ≤ l) (hl4 : l ≤ 4) : Wp (m__law_recent [.int (l : Nat)] M) fun d M' => d = tabD (recT l) ∧ Kp NoW M M' := by
  have facts : ∀ l, 1 ≤ l → l ≤ 4 → factN l ≤ 24 ∧ (recN l (factN l)).1.length = factN l ∧ ∀ i, i < factN l → i < (recN l i).1.length ∧ ((recN l i).1.getD i []).headD 0 < l ∧ ((recN l i).1.getD i []) ≠ [] ∧ (recN l i).1.length ≤ 100 ∧ ((recN l i).1.getD i []).length ≤ 4 := by
    intro l h1 h4
    match l, h1, h4 with
    | 1, _, _ => decide +kernel
    | 2, _, _ => decide +kernel
    | 3, _, _ => decide +kernel
    | 4, _, _ => decide +kernel
  obtain ⟨f1, f2, f3⟩ := facts l hl hl4
  refine wp_fn rfl [some (.int (l : Nat)), none, none, none, none, none, none, none, none] rfl ?_
  unfold b__law_recent
  simp_wf
  refine wp_tupR ?_
  simp_wf
  refine ⟨l, rfl, by omega, ?_⟩
  simp_wf
  intro o M1 e1 g1 k1 l1
  simp_wf
  intro r M2 e2 g2 k2 l2
  have g1' := k2.at g1 id
  simp_wf
  refine wp_whileI (fun m env M' => ∃ (i : Nat) (x4 x5 : Option Dv), m = factN l - i ∧ i ≤ factN l ∧ env = [some (.int (l : Nat)), some (.loc o), some (.loc r), some (.int (i : Nat)), x4, x5, none, none, none] ∧
    M'[o]? = some (.lst ((recN l i).1.map ordD)) ∧ M'[r]? = some (.lst ((recN l i).2.map rowD)) ∧ Kp NoW M M') ?_ 1000000 (factN l) _ _ (by omega) ⟨0, none, none, by omega, by omega, rfl, g1', g2, k1.tr k2⟩
  rintro m env M' ⟨i, x4, x5, rfl, hi, rfl, a1, a2, a3⟩
  simp_wf
  refine wp_lenL a1 ?_
  simp_wf
  by_cases hlt : i < factN l
  · obtain ⟨b1, b2, b3, b4, b5⟩ := f3 i hlt
    have hd : (decide ((i : Int) < (((recN l i).1.map ordD).length : Nat))) = true := decide_eq_true (by rw [List.length_map]; omega)
    rw [hd]
    generalize hos : (recN l i).1 = os at *
    generalize hhe : os.getD i [] = here at *
    have hget : os[i]? = some here := by
      rw [← hhe, List.getD_eq_getElem?_getD]
      rw [List.getElem?_eq_getElem b1]; rfl
    simp_wf
    refine wp_ixL a1 (atI_n (x := ordD here) (by rw [List.getElem?_map, hget]; rfl)) ?_
    simp_wf
    refine wp_lcP (fun x => match x with | .int z => ordD ((here.filter fun s => s != z.toNat) ++ [z.toNat]) | _ => .non) ?_
    simp_wf
    refine ⟨_, rfl, by omega, intsR l, intsR_len.symm, by rw [intsR_len]; show _ ≤ 2 ^ 24; omega, fun i M' _ _ => rng_stp, ?_, ?_⟩
    · intro x hx M3 k3
      obtain ⟨a, ha, rfl⟩ := List.mem_map.mp hx
      simp_wf
      refine wp_lcF (fun y => match y with | .int z => z != (a : Int) | _ => false) (fun y => y) ?_
      simp_wf
      refine ⟨_, rfl, intsN here, rfl, by simp [intsN]; show _ ≤ 2 ^ 24; omega, fun _ _ _ _ => rfl, ?_, ?_, ?_⟩
      · intro y hy M4 k4
        obtain ⟨b, hb, rfl⟩ := List.mem_map.mp hy
        simp_wf
        refine ⟨?_, .refl⟩
        rw [Bool.true_xor]; rfl
      · intro y hy M4 k4
        obtain ⟨b, hb, rfl⟩ := List.mem_map.mp hy
        simp_wf
        exact ⟨rfl, .refl⟩
      · intro M4 k4 g4
        simp_wf
        refine wp_tupL g4 ?_
        simp_wf
        refine wp_addT ?_ ?_
        · rw [List.map_id']
          have := List.length_filter_le (fun y : Dv => match y with | .int z => z != (a : Int) | _ => false) (intsN here)
          have h2 : (intsN here).length = here.length := by simp [intsN]
          simp only [List.length_cons, List.length_nil]
          omega
        · refine ⟨?_, k4⟩
          rw [List.map_id']
          simp only [Int.toNat_natCast, ordD, intsN, List.map_append, List.map_cons, List.map_nil]
          congr 2
          rw [List.filter_map]
          congr 1
          apply List.filter_congr
          intro s _
          show ((s : Int) != (a : Int)) = (s != a)
          by_cases e : s = a
          · subst e; simp
          · have e2 : ¬ ((s : Int) = (a : Int)) := by omega
            rw [bne_iff_ne.mpr e, bne_iff_ne.mpr e2]
    · intro M3 k3 g3
      have gs1 : (intsR l).map (fun x => match x with | .int z => ordD ((here.filter fun s => s != z.toNat) ++ [z.toNat]) | _ => .non) = (goalsN l here).map ordD := by
        unfold intsR goalsN
        rw [List.map_map, List.map_map]
        apply List.map_congr_left
        intro a _
        simp
      rw [gs1] at g3
      have gl : (goalsN l here).length = l := by simp [goalsN]
      generalize hgs : goalsN l here = gs at *
      generalize hg : M'.length = g at *
      have hrl := lt_of a2
      have hol := lt_of a1
      have a1' := k3.at a1 id
      have a2' := k3.at a2 id
      simp_wf
      refine ⟨ty_lst a1', ?_⟩
      simp_wf
      refine wp_lcF (fun y => match y with | .tup z => !os.contains (unN z) | _ => false) (fun y => y) ?_
      simp_wf
      refine ⟨_, src_loc g3, gs.map ordD, rfl, by rw [List.length_map, gl]; show _ ≤ 2 ^ 24; omega, fun i M'' k _ => stpL_at (k.at g3 id), ?_, ?_, ?_⟩
      · intro y hy M4 k4
        obtain ⟨b, hb, rfl⟩ := List.mem_map.mp hy
        simp_wf
        refine wp_notin (k4.at a1' id) ?_
        simp_wf
        refine ⟨?_, .refl⟩
        simp only [ordD, unN_ints]
      · intro y hy M4 k4
        simp_wf
        exact ⟨rfl, .refl⟩
      · intro M4 k4 g4
        have fe : ((gs.map ordD).filter fun y => match y with | .tup z => !os.contains (unN z) | _ => false) = (gs.filter fun g => !os.contains g).map ordD := by
          rw [List.filter_map]
          congr 1
          apply List.filter_congr
          intro s _
          simp only [Function.comp, ordD, unN_ints]
        rw [List.map_id', fe] at g4
        have fl := List.length_filter_le (fun g => !os.contains g) gs
        generalize hnw : (gs.filter fun g => !os.contains g) = nw at *
        have a1'' := k4.at a1' id
        have a2'' := k4.at a2' id
        have g3'' := k4.at g3 id
        simp_wf
        refine wp_extend a1'' g4 (by rw [List.length_map, List.length_map]; omega) ?_
        have n1 := lt_of a1''
        have h5 : (M4.set o (.lst (os.map ordD ++ nw.map ordD)))[o]? = some (.lst ((os ++ nw).map ordD)) := by rw [at_set a1'', List.map_append]
        have h6 : (M4.set o (.lst (os.map ordD ++ nw.map ordD)))[r]? = some (.lst ((recN l i).2.map rowD)) := at_set_ne a2'' (by omega)
        have h7 : (M4.set o (.lst (os.map ordD ++ nw.map ordD)))[g]? = some (.lst (gs.map ordD)) := at_set_ne g3'' (by omega)
        have h8 : Kp NoW M (M4.set o (.lst (os.map ordD ++ nw.map ordD))) := ((a3.tr k3).tr k4).trans (Kp.set (W := At o) fun _ => rfl) (fun n hn e => by simp only [At] at e; omega)
        generalize M4.set o (.lst (os.map ordD ++ nw.map ordD)) = M5 at *
        have mem : ∀ z ∈ gs, z ∈ os ++ nw := by
          intro z hz
          by_cases hc : z ∈ os
          · exact List.mem_append_left _ hc
          · refine List.mem_append_right _ ?_
            rw [← hnw, List.mem_filter]
            refine ⟨hz, ?_⟩
            simpa using hc
        obtain ⟨h0, ht, rfl⟩ : ∃ h0 ht, here = h0 :: ht := by
          cases here with
          | nil => exact absurd rfl b3
          | cons a b => exact ⟨a, b, rfl⟩
        have b2' : h0 < l := b2
        have hgh : gs[h0]? = some (gs.getD h0 []) := by
          rw [List.getD_eq_getElem?_getD, List.getElem?_eq_getElem (by omega)]; rfl
        simp_wf
        refine ⟨ty_lst h6, ?_⟩
        simp_wf
        refine wp_ixT (xs := intsN (h0 :: ht)) (x := .int (h0 : Nat)) (atI_n (j := 0) rfl) ?_
        simp_wf
        refine wp_or1 ?_
        simp_wf
        refine ⟨ty_lst h5, ?_⟩
        simp_wf
        refine wp_ixT (xs := intsN (h0 :: ht)) (x := .int (h0 : Nat)) (atI_n (j := 0) rfl) ?_
        simp_wf
        refine wp_ixL h7 (atI_n (x := ordD (gs.getD h0 [])) (by rw [List.getElem?_map, hgh]; rfl)) ?_
        simp_wf
        refine wp_index h5 (mem _ (List.mem_of_getElem? hgh)) ?_
        simp_wf
        refine wp_lcP (fun y => match y with | .tup z => .int ((os ++ nw).idxOf (unN z) : Nat) | _ => .non) ?_
        simp_wf
        refine ⟨_, src_loc h7, gs.map ordD, rfl, by rw [List.length_map, gl]; show _ ≤ 2 ^ 24; omega, fun i M'' k _ => stpL_at (k.at h7 id), ?_, ?_⟩
        · intro y hy M6 k6
          obtain ⟨b, hb, rfl⟩ := List.mem_map.mp hy
          refine wp_or1 ?_
          simp_wf
          refine ⟨ty_lst (k6.at h5 id), ?_⟩
          simp_wf
          refine wp_index (k6.at h5 id) (mem _ hb) ?_
          refine ⟨?_, .refl⟩
          simp only [ordD, unN_ints]
        · intro M6 k6 g6
          simp_wf
          refine wp_tupL g6 ?_
          simp_wf
          have q1 := k6.at h5 id
          have q2 := k6.at h6 id
          have hrows : ∀ j, (recN l j).2.length = j := by
            intro j
            induction j with
            | zero => rfl
            | succ j ih =>
              show (nextN l j (recN l j)).2.length = j + 1
              unfold nextN
              simp [ih]
          refine wp_append q2 (by rw [List.length_map, hrows]; show _ < 2 ^ 24; omega) ?_
          simp_wf
          refine ⟨factN l - (i + 1), by omega, i + 1, _, _, rfl, by omega, rfl, ?_, ?_, (h8.tr k6).trans (Kp.set (W := At r) fun _ => rfl) (fun n hn e => by simp only [At] at e; omega)⟩
          · rw [at_set_ne q1 (by omega)]
            have : (recN l (i + 1)).1 = os ++ nw := by
              show (nextN l i (recN l i)).1 = _
              unfold nextN
              simp only [hos, hhe, hgs, hnw]
            rw [this]
          · rw [at_set q2]
            have : (recN l (i + 1)).2 = (recN l i).2 ++ [⟨h0, (os ++ nw).idxOf (gs.getD h0 []), gs.map (os ++ nw).idxOf⟩] := by
              show (nextN l i (recN l i)).2 = _
              unfold nextN
              simp only [hos, hhe, hgs, hnw, List.headD_cons]
            rw [this, List.map_append]
            congr 3
            simp only [List.map_cons, List.map_nil, rowD, intsN, List.map_map]
            congr 4
            refine congrArg (fun z => [Dv.tup z]) ?_
            apply List.map_congr_left
            intro z _
            simp only [Function.comp, ordD, unN_ints]
  · have e : i = factN l := by omega
    subst e
    have hd : (decide (((factN l : Nat) : Int) < (((recN l (factN l)).1.map ordD).length : Nat))) = false := decide_eq_false (by rw [List.length_map, f2]; omega)
    rw [hd]
    simp_wf
    refine wp_tupL a2 ?_
    simp_wf
    exact ⟨rfl, a3⟩

instance {l n : Nat} {r : Row} : Decidable (OkR l n r) := by unfold OkR; exact inferInstance
theorem rec_ok {l : Nat} (hl : 1 ≤ l) (hl4 : l ≤ 4) : OkT (recT l) := by
  have facts : ∀ l, 1 ≤ l → l ≤ 4 → 1 ≤ (recT l).rows.length ∧ (recT l).rows.length ≤ 64 ∧ ∀ r ∈ (recT l).rows, OkR (recT l).l (recT l).rows.length r := by
    intro l h1 h4
    match l, h1, h4 with
    | 1, _, _ => decide +kernel
    | 2, _, _ => decide +kernel
    | 3, _, _ => decide +kernel
    | 4, _, _ => decide +kernel
  obtain ⟨a, b, c⟩ := facts l hl hl4
  exact ⟨hl, hl4, a, b, c⟩
end L55

/-! text I13_55 -/
namespace L55
open PySem L2 PySem.Spec PyProof.Rows Zl
theorem small_rec {l : Nat} (h1 : 1 ≤ l) (h3 : l ≤ 3) : Small (recT l) := by
  refine ⟨rec_ok h1 (by omega), .inl ⟨h3, ?_⟩⟩
  have : l = 1 ∨ l = 2 ∨ l = 3 := by omega
  rcases this with rfl | rfl | rfl <;> decide +kernel
theorem small_queue {l : Nat} (h1 : 1 ≤ l) (h3 : l ≤ 3) : Small (queueT l) := by
  refine ⟨queue_ok h1 (by omega), .inl ⟨h3, ?_⟩⟩
  unfold queueT
  simp only [List.length_map, List.length_range]
  omega
theorem sp_right {p : Nat} {M : Mem} (h : Pool p M) : Wp (m__law_right [.loc p] M) fun d M' => d = .bl true ∧ Kp (At p) M M' := by
  refine wp_fn rfl [some (.loc p), none, none] rfl ?_
  unfold b__law_right
  array_get_dec
  refine wq_for (fun i env M' => ∃ (x1 x2 : Option Dv), env = [some (.loc p), x1, x2] ∧ Pool p M' ∧ Kp (At p) M M') ?_
  array_get_dec
  refine k_forR ⟨none, none, rfl, h, .refl⟩ ?_ ?_
  · rintro i env M1 hi ⟨x1, x2, rfl, P1, k1⟩
    array_get_dec
    refine (sp_draw P1 (by decide) (by decide)).go ?_
    rintro _ M2 ⟨⟨a, rfl, ha⟩, P2, k2⟩
    array_get_dec
    refine (sp_draw P2 (by decide) (by decide)).go ?_
    rintro _ M3 ⟨⟨b, rfl, hb⟩, P3, k3⟩
    array_get_dec
    rw [show (1 : Int) + (a : Nat) = ((1 + a : Nat) : Int) by omega, show (1 : Int) + (b : Nat) = ((1 + b : Nat) : Int) by omega]
    refine (sp_policyL P3 (by omega) (by omega) (by omega) (by omega)).go ?_
    rintro _ M4 ⟨⟨t, rfl, ok, tl, tr⟩, P4, k4⟩
    array_get_dec
    refine (sp_asked ⟨ok, .inl ⟨by omega, by omega⟩⟩).go ?_
    rintro _ M5 ⟨rfl, k5⟩
    array_get_dec
    refine ki_of (c := false) rfl ?_
    array_get_dec
    exact ⟨_, _, rfl, P4.kp k5, (((k1.tr k2).tr k3).tr k4).trN k5⟩
  · rintro env M1 ⟨x1, x2, rfl, P1, k1⟩
    array_get_dec
    refine (sp_draw P1 (by decide) (by decide)).go ?_
    rintro _ M3 ⟨⟨b, rfl, hb⟩, P3, k3⟩
    array_get_dec
    rw [show (1 : Int) + (b : Nat) = ((1 + b : Nat) : Int) by omega]
    refine (sp_policyL (l := 4) P3 (by omega) (by omega) (by omega) (by omega)).go ?_
    rintro _ M4 ⟨⟨t, rfl, ok, tl, tr⟩, P4, k4⟩
    array_get_dec
    refine (sp_asked ⟨ok, .inr (by omega)⟩).go ?_
    rintro _ M5 ⟨rfl, k5⟩
    exact ⟨rfl, ((k1.tr k3).tr k4).trN k5⟩
theorem math : ∀ ns : List Int, ns.length ≤ 63 → ∃ M', m_law [.rol (ns.map .int)] [] = some (.bl true, M') := by
  intro ns hns
  have h : Wp (m_law [.rol (ns.map .int)] []) fun d _ => d = .bl true := by
    refine wp_fn rfl [some (.rol (ns.map .int)), none, none] rfl ?_
    unfold b_law
    array_get_dec
    refine wq_map (fun _ => .bl true) ?_
    array_get_dec
    rename_i n0 M0 e0 g0 k0 l0
    refine k_mapL g0 (size_le (by simp)) ?_ ?_
    · intro x hx M1 k1
      obtain ⟨l, rfl, h1, h3⟩ : ∃ l : Nat, x = .int (l : Nat) ∧ 1 ≤ l ∧ l ≤ 3 := by
        simp only [List.mem_cons, List.not_mem_nil, or_false] at hx
        rcases hx with rfl | rfl | rfl
        · exact ⟨1, rfl, by omega, by omega⟩
        · exact ⟨2, rfl, by omega, by omega⟩
        · exact ⟨3, rfl, by omega, by omega⟩
      array_get_dec
      refine (sp_recent h1 (by omega)).go ?_
      rintro _ M2 ⟨rfl, k2⟩
      array_get_dec
      refine (sp_asked (small_rec h1 h3)).go ?_
      rintro _ M3 ⟨rfl, k3⟩
      array_get_dec
      refine (sp_queue h1 (by omega)).go ?_
      rintro _ M4 ⟨rfl, k4⟩
      array_get_dec
      refine (sp_asked (small_queue h1 h3)).go ?_
      rintro _ M5 ⟨rfl, k5⟩
      exact ⟨rfl, ((k2.trN k3).trN k4).trN k5⟩
    intro n1 M1 e1 l1 k1 g1
    array_get_dec
    refine wp_all g1 (bls_all (by simp)) ?_
    array_get_dec
    refine ki_of (c := false) (by simp) ?_
    array_get_dec
    refine wq_map (fun _ => .bl true) ?_
    array_get_dec
    have hlen : ((ns.map Dv.int).length : Nat) = ns.length := by simp
    refine wp_ev (a := .int (min ns.length 5 : Nat)) (M' := M1) ?_ ?_
    · unfold minD
      simp only [hlen]
      congr 3
      split <;> omega
    array_get_dec
    refine wp_ev (a := .int (max 2 (min ns.length 5) : Nat)) (M' := M1) ?_ ?_
    · unfold maxD
      simp only
      congr 3
      split <;> omega
    array_get_dec
    refine k_mapR (size_le (by omega)) ?_ ?_
    · intro j hj M2 k2
      array_get_dec
      refine (sp_cell (k := j) (by omega)).go ?_
      rintro _ M3 ⟨⟨x, rfl⟩, k3⟩
      array_get_dec
      refine sp_pool.go ?_
      rintro _ M4 ⟨p, rfl, ep, hp, k4⟩
      array_get_dec
      refine (sp_right hp).go ?_
      rintro _ M5 ⟨rfl, k5⟩
      exact ⟨rfl, by array_mem_dec⟩
    · intro n M2 e2 l2 k2 g2
      array_get_dec
      refine wp_all g2 (bls_all (by simp)) ?_
      array_get_dec
      simp
  obtain ⟨d, M, e, rfl⟩ := h
  exact ⟨M, e⟩
end L55

open PySem PySem.W PyProof.Rows in
set_option maxRecDepth 100000 in
set_option maxHeartbeats 0 in
theorem PySem.Challenge.cw_missbounds_k55_plain_forms_drawn_holds : PySem.Challenge.rw_missbounds_k55_plain_forms_drawn.Holds := by
  w_on; o_law; k_head; (case hw => w_witness2)
  k_fill
  refine Zl.walk_end (l := PySem.Challenge.rw_missbounds_k55_plain_forms_drawn) (k := 9) (x := "_law_script") (F := L55.m_law) rfl rfl ⟨rfl, by decide, by decide⟩ (fun w h Y => PySem.W.kIn_of Y) ?T L55.math
  intro w mg fa h KX G hmg
  refine' Exists.elim (L55.all_mk KX G hmg ?aC_Stages ?pg_Stages ?hd_Stages ?po_Stages ?sa_Stages ?a_firsts_of ?l_firsts_of ?c_firsts_of ?k_firsts_of ?a_numbered ?l_numbered ?c_numbered ?k_numbered ?a_classes_of ?l_classes_of ?c_classes_of ?k_classes_of ?a_after_hits ?l_after_hits ?c_after_hits ?k_after_hits ?a_Stages_place_of ?i_Stages_place_of ?l_Stages_place_of ?c_Stages_place_of ?k_Stages_place_of ?a_after_miss ?l_after_miss ?c_after_miss ?k_after_miss ?a_Stages_init ?i_Stages_init ?mk_Stages ?kc_Stages ?l_Stages_init ?c_Stages_init ?k_Stages_init ?a_is_integer ?l_is_integer ?c_is_integer ?k_is_integer ?a_is_between ?l_is_between ?c_is_between ?k_is_between ?a_is_row ?l_is_row ?c_is_row ?k_is_row ?a_is_policy ?l_is_policy ?c_is_policy ?k_is_policy ?a_check_policy ?l_check_policy ?c_check_policy ?k_check_policy ?a_plain ?l_plain ?c_plain ?k_plain ?a__law_unlike ?l__law_unlike ?c__law_unlike ?k__law_unlike ?a__law_stages ?l__law_stages ?c__law_stages ?k__law_stages ?a__law_plain ?l__law_plain ?c__law_plain ?k__law_plain ?a__law_asked ?l__law_asked ?c__law_asked ?k__law_asked ?a__law_draw ?l__law_draw ?c__law_draw ?k__law_draw ?a__law_policy ?l__law_policy ?c__law_policy ?k__law_policy ?a__law_right ?l__law_right ?c__law_right ?k__law_right ?a__law_pool ?l__law_pool ?c__law_pool ?k__law_pool ?a__law_cell ?l__law_cell ?c__law_cell ?k__law_cell ?a__law_recent ?l__law_recent ?c__law_recent ?k__law_recent ?a__law_queue ?l__law_queue ?c__law_queue ?k__law_queue ?a_law ?l_law ?c_law ?k_law ?na_Stages_order ?na_Stages_places ?na_Stages_rows ?z_abs ?z_all ?z_any ?z_bool ?z_divmod ?z_enumerate ?z_int ?z_isinstance ?z_len ?z_max ?z_min ?z_range ?z_repr ?z_set ?z_tuple ?z_zip ?g_MOST_LINES ?g_MOST_STATES) ?fin
  (case aC_Stages => k_is)
  (case pg_Stages => k_is)
  (case hd_Stages => k_is)
  (case po_Stages => k_is)
  (case sa_Stages => k_is)
  (case a_firsts_of => k_is)
  (case l_firsts_of => k_is)
  (case c_firsts_of => k_is)
  (case k_firsts_of => k_is)
  (case a_numbered => k_is)
  (case l_numbered => k_is)
  (case c_numbered => k_is)
  (case k_numbered => k_is)
  (case a_classes_of => k_is)
  (case l_classes_of => k_is)
  (case c_classes_of => k_is)
  (case k_classes_of => k_is)
  (case a_after_hits => k_is)
  (case l_after_hits => k_is)
  (case c_after_hits => k_is)
  (case k_after_hits => k_is)
  (case a_Stages_place_of => k_is)
  (case i_Stages_place_of => k_is)
  (case l_Stages_place_of => k_is)
  (case c_Stages_place_of => k_is)
  (case k_Stages_place_of => k_is)
  (case a_after_miss => k_is)
  (case l_after_miss => k_is)
  (case c_after_miss => k_is)
  (case k_after_miss => k_is)
  (case a_Stages_init => k_is)
  (case i_Stages_init => k_is)
  (case mk_Stages => k_is)
  (case kc_Stages => k_is)
  (case l_Stages_init => k_is)
  (case c_Stages_init => k_is)
  (case k_Stages_init => k_is)
  (case a_is_integer => k_is)
  (case l_is_integer => k_is)
  (case c_is_integer => k_is)
  (case k_is_integer => k_is)
  (case a_is_between => k_is)
  (case l_is_between => k_is)
  (case c_is_between => k_is)
  (case k_is_between => k_is)
  (case a_is_row => k_is)
  (case l_is_row => k_is)
  (case c_is_row => k_is)
  (case k_is_row => k_is)
  (case a_is_policy => k_is)
  (case l_is_policy => k_is)
  (case c_is_policy => k_is)
  (case k_is_policy => k_is)
  (case a_check_policy => k_is)
  (case l_check_policy => k_is)
  (case c_check_policy => k_is)
  (case k_check_policy => k_is)
  (case a_plain => k_is)
  (case l_plain => k_is)
  (case c_plain => k_is)
  (case k_plain => k_is)
  (case a__law_unlike => k_is)
  (case l__law_unlike => k_is)
  (case c__law_unlike => k_is)
  (case k__law_unlike => k_is)
  (case a__law_stages => k_is)
  (case l__law_stages => k_is)
  (case c__law_stages => k_is)
  (case k__law_stages => k_is)
  (case a__law_plain => k_is)
  (case l__law_plain => k_is)
  (case c__law_plain => k_is)
  (case k__law_plain => k_is)
  (case a__law_asked => k_is)
  (case l__law_asked => k_is)
  (case c__law_asked => k_is)
  (case k__law_asked => k_is)
  (case a__law_draw => k_is)
  (case l__law_draw => k_is)
  (case c__law_draw => k_is)
  (case k__law_draw => k_is)
  (case a__law_policy => k_is)
  (case l__law_policy => k_is)
  (case c__law_policy => k_is)
  (case k__law_policy => k_is)
  (case a__law_right => k_is)
  (case l__law_right => k_is)
  (case c__law_right => k_is)
  (case k__law_right => k_is)
  (case a__law_pool => k_is)
  (case l__law_pool => k_is)
  (case c__law_pool => k_is)
  (case k__law_pool => k_is)
  (case a__law_cell => k_is)
  (case l__law_cell => k_is)
  (case c__law_cell => k_is)
  (case k__law_cell => k_is)
  (case a__law_recent => k_is)
  (case l__law_recent => k_is)
  (case c__law_recent => k_is)
  (case k__law_recent => k_is)
  (case a__law_queue => k_is)
  (case l__law_queue => k_is)
  (case c__law_queue => k_is)
  (case k__law_queue => k_is)
  (case a_law => k_is)
  (case l_law => k_is)
  (case c_law => k_is)
  (case k_law => k_is)
  (case na_Stages_order => k_is)
  (case na_Stages_places => k_is)
  (case na_Stages_rows => k_is)
  (case z_abs => k_is)
  (case z_all => k_is)
  (case z_any => k_is)
  (case z_bool => k_is)
  (case z_divmod => k_is)
  (case z_enumerate => k_is)
  (case z_int => k_is)
  (case z_isinstance => k_is)
  (case z_len => k_is)
  (case z_max => k_is)
  (case z_min => k_is)
  (case z_range => k_is)
  (case z_repr => k_is)
  (case z_set => k_is)
  (case z_tuple => k_is)
  (case z_zip => k_is)
  (case g_MOST_LINES => k_is)
  (case g_MOST_STATES => k_is)
  case fin =>
    rintro T ⟨rfl, hb⟩
    exact ⟨T.ct _ _, T.d_law, hb, fun base _ _ => L55.ok_law T⟩
