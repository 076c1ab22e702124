import PyProof.Rows.All
import HandS.ForMost
import HandS.Deep
import HandS.TupAny
import HandS.TupMul
import HandS.IsInst
import HandS.Flow
import HandS.Conv
import HandS.Star
import KE.KDictKeyed
import HandS.RaiseMore
import HandS.Strs
import PyProof.FactsAll.list
import HandS.NoneIn
import HandS.Style
import HandS.Zip
import KE.GoesMore
import PyProof.ListStr
import KE.KDictDisplayH
import HandS.Small
import HandS.WordsDict
import KE.KDictCopyH
import HandS.Iter
import HandS.Remove
import PyProof.Rows.SetFrom
import PySem.Challenge.RW_missbounds_k54_plain_forms_by_hand
set_option Elab.async false
set_option linter.all false
set_option maxRecDepth 100000
set_option maxHeartbeats 4000000
/-! text Z1 -/
namespace Zl
open PySem L2

/-! ## Data, memory, the relation to the abstract heap -/
inductive Dv where
  | non
  | bl (b : Bool)
  | int (i : Int)
  | str (x : Str)
  | tup (xs : List Dv)
  | loc (n : Nat)
  | rol (xs : List Dv)
  | ty (n : String)
  | pr (xs : List Dv)
  deriving Inhabited

inductive Ob where
  | lst (xs : List Dv)
  | ins (c : Nat) (fs : List (Str × Dv))
  | dct (kvs : List (Key × Dv))
  | dcn (kvs : List (NestedKey × Dv × Dv))
  | st (xs : List Int)
  deriving Inhabited
/-- the classes' places; the program, the world -/
structure Ct where
  cls : Nat → Option Addr
  prg : Program
  wd : World
instance : CoeFun Ct (fun _ => Nat → Option Addr) := ⟨Ct.cls⟩
/-- keys that are tuples, nested -/
def nkL (f : Dv → Option NestedKey) : List Dv → Option (List NestedKey)
  | [] => some []
  | x :: xs => match f x with
    | some k => match nkL f xs with
      | some ks => some (k :: ks)
      | none => none
    | none => none
def nkN : Nat → Dv → Option NestedKey
  | _, .non => some .none
  | _, .bl b => some (.num (if b then 1 else 0))
  | _, .int i => some (.num i)
  | _, .str x => some (.text x)
  | _, .loc _ => none
  | _, .rol _ => none
  | _, .ty _ => none
  | _, .pr _ => none
  | 0, .tup _ => none
  | n + 1, .tup xs => match nkL (nkN n) xs with
    | some ks => some (.tup ks)
    | none => none
def keyN : Dv → Option NestedKey
  | .tup xs => nkN 8 (.tup xs)
  | _ => none
/-- a dict with such keys: where the keys stand, the values -/
def RawN (P : Program) (w : World) (h : Heap) (a : Addr) (xs : List (NestedKey × Addr × Value)) : Prop :=
  ∃ o es ep, h.get? a = some o ∧ o.ExactDict ∧ o.data = .dict es ep ∧ es.toList = xs.map (entryOfKey (nestedKind P w)) ∧ (xs.map (·.1)).Nodup ∧ xs.length ≤ sizeLine ∧ (a == sysModules) = false
def NDic (P : Program) (w : World) (a : Addr) (xs : List (NestedKey × Addr × Value)) : HO := .ext fun h => RawN P w h a xs

abbrev Mem := List Ob
abbrev En := List (Option Dv)
abbrev Frg := PySem.W.Frag

/-- a list that nothing here writes: locked, or of the written part -/
def SqF (K : Frg) (H : Hp) (a : Addr) (xs : List V) : Prop :=
  (∃ o, H a = some (.frz o (.lst xs))) ∨ ((∀ H' : Hp, SqL K H' a xs) ∧ ∃ o : Obj, K.lookup a = some o ∧ o.cls = .type "list")
theorem SqF.sq {K : Frg} {H : Hp} {a : Addr} {xs : List V} (h : SqF K H a xs) : SqL K H a xs := by
  rcases h with ⟨o, h⟩ | ⟨h, _⟩
  · exact .inl (.inr ⟨o, h⟩)
  · exact h H

/-- a tuple without a dict of its own: locked, or of the written part -/
def TupD (K : Frg) (H : Hp) (a : Addr) (xs : List V) : Prop :=
  (∃ o : Obj, H a = some (.frz o (.tup xs)) ∧ o.dict = none) ∨
    ∃ (o : Obj) (its : Array Value) (n : Nat), K.lookup a = some o ∧ o.cls = .type "tuple" ∧ o.dict = none ∧ o.data = .seq its n ∧ its.size ≤ sizeLine ∧ Vals xs its.toList
theorem TupD.sq {K : Frg} {H : Hp} {a : Addr} {xs : List V} (h : TupD K H a xs) : SqT K H a xs := by
  rcases h with ⟨o, h, _⟩ | ⟨o, its, n, h1, h2, _, h3, h4, h5⟩
  · exact .inl (.inr ⟨o, h⟩)
  · exact .inr ⟨o, its, n, h1, h2, h3, h4, h5⟩

mutual
inductive DV (K : Frg) (ρ : List Addr) (H : Hp) : Dv → V → Prop
  | non : DV K ρ H .non .non
  | bl (b : Bool) : DV K ρ H (.bl b) (.bl b)
  | int (i : Int) : DV K ρ H (.int i) (.int i)
  | str (x : Str) : DV K ρ H (.str x) (.str x)
  | tup {ds : List Dv} {vs : List V} {a : Addr} : TupD K H a vs → DVs K ρ H ds vs → DV K ρ H (.tup ds) (.ref a)
  | loc {n : Nat} {a : Addr} : ρ[n]? = some a → DV K ρ H (.loc n) (.ref a)
  | rol {ds : List Dv} {vs : List V} {a : Addr} : SqF K H a vs → DVs K ρ H ds vs → DV K ρ H (.rol ds) (.ref a)
  | ty (n : String) : DV K ρ H (.ty n) (.ty n)
  | pr {ds : List Dv} {vs : List V} {a : Addr} : SqT K H a vs → DVs K ρ H ds vs → DV K ρ H (.pr ds) (.ref a)
inductive DVs (K : Frg) (ρ : List Addr) (H : Hp) : List Dv → List V → Prop
  | nil : DVs K ρ H [] []
  | cons {d : Dv} {v : V} {ds : List Dv} {vs : List V} : DV K ρ H d v → DVs K ρ H ds vs → DVs K ρ H (d :: ds) (v :: vs)
end

structure Ext (K : Frg) (ρ : List Addr) (H : Hp) (ρ' : List Addr) (H' : Hp) : Prop where
  pre : ∀ (n : Nat) (a : Addr), ρ[n]? = some a → ρ'[n]? = some a
  tup : ∀ a vs, SqT K H a vs → SqT K H' a vs
  frz : ∀ a o u, H a = some (.frz o u) → H' a = some (.frz o u)
theorem Ext.refl {K : Frg} {ρ : List Addr} {H : Hp} : Ext K ρ H ρ H := ⟨fun _ _ h => h, fun _ _ h => h, fun _ _ _ h => h⟩
theorem Ext.trans {K : Frg} {ρ ρ1 ρ2 : List Addr} {H H1 H2 : Hp} (a : Ext K ρ H ρ1 H1) (b : Ext K ρ1 H1 ρ2 H2) : Ext K ρ H ρ2 H2 :=
  ⟨fun n x h => b.pre n x (a.pre n x h), fun x vs h => b.tup x vs (a.tup x vs h), fun x o u h => b.frz x o u (a.frz x o u h)⟩
theorem TupD.mono {K : Frg} {ρ ρ' : List Addr} {H H' : Hp} {a : Addr} {xs : List V} (h : TupD K H a xs) (e : Ext K ρ H ρ' H') : TupD K H' a xs := by
  rcases h with ⟨o, h, z⟩ | h
  · exact .inl ⟨o, e.frz _ _ _ h, z⟩
  · exact .inr h
theorem TupD.new {K : Frg} {H : Hp} {p : Addr} {o : Obj} {xs : List V} (z : o.dict = none) : TupD K (upd H p (.frz o (.tup xs))) p xs := .inl ⟨o, upd_same, z⟩
theorem SqF.mono {K : Frg} {ρ ρ' : List Addr} {H H' : Hp} {a : Addr} {xs : List V} (h : SqF K H a xs) (e : Ext K ρ H ρ' H') : SqF K H' a xs := by
  rcases h with ⟨o, h⟩ | h
  · exact .inl ⟨o, e.frz _ _ _ h⟩
  · exact .inr h

section
variable {K : Frg} {ρ ρ' : List Addr} {H H' : Hp}
mutual
theorem DV.mono (e : Ext K ρ H ρ' H') : ∀ {d : Dv} {v : V}, DV K ρ H d v → DV K ρ' H' d v
  | _, _, .non => .non
  | _, _, .bl b => .bl b
  | _, _, .int i => .int i
  | _, _, .str x => .str x
  | _, _, .tup h r => .tup (h.mono e) (DVs.mono e r)
  | _, _, .pr h r => .pr (e.tup _ _ h) (DVs.mono e r)
  | _, _, .loc h => .loc (e.pre _ _ h)
  | _, _, .rol h r => .rol (h.mono e) (DVs.mono e r)
  | _, _, .ty n => .ty n
theorem DVs.mono (e : Ext K ρ H ρ' H') : ∀ {ds : List Dv} {vs : List V}, DVs K ρ H ds vs → DVs K ρ' H' ds vs
  | _, _, .nil => .nil
  | _, _, .cons h r => .cons (DV.mono e h) (DVs.mono e r)
end
theorem DVs.length : ∀ {ds : List Dv} {vs : List V}, DVs K ρ H ds vs → ds.length = vs.length
  | _, _, .nil => rfl
  | _, _, .cons _ r => by rw [List.length_cons, List.length_cons, DVs.length r]
theorem DVs.append : ∀ {ds es : List Dv} {vs ws : List V}, DVs K ρ H ds vs → DVs K ρ H es ws → DVs K ρ H (ds ++ es) (vs ++ ws)
  | _, _, _, _, .nil, s => s
  | _, _, _, _, .cons h r, s => .cons h (DVs.append r s)
theorem DVs.get : ∀ {ds : List Dv} {vs : List V} {i : Nat} {d : Dv}, DVs K ρ H ds vs → ds[i]? = some d → ∃ v, vs[i]? = some v ∧ DV K ρ H d v
  | _, _, _, _, .nil, e => by simp at e
  | _, _, 0, _, .cons h _, e => by simp at e; subst e; exact ⟨_, rfl, h⟩
  | _, _, i + 1, d, .cons _ r, e => by
    obtain ⟨u, h1, h2⟩ := DVs.get (i := i) (d := d) r (by simpa using e)
    exact ⟨u, by simpa using h1, h2⟩
theorem DVs.set {x : Dv} {u : V} (h : DV K ρ H x u) : ∀ {ds : List Dv} {vs : List V} (i : Nat), DVs K ρ H ds vs → DVs K ρ H (ds.set i x) (vs.set i u)
  | _, _, _, .nil => .nil
  | _, _, 0, .cons _ t => .cons h t
  | _, _, i + 1, .cons q t => .cons q (DVs.set h i t)
theorem DVs.take : ∀ {ds : List Dv} {vs : List V} (n : Nat), DVs K ρ H ds vs → DVs K ρ H (ds.take n) (vs.take n)
  | _, _, 0, _ => .nil
  | _, _, _ + 1, .nil => .nil
  | _, _, n + 1, .cons r t => .cons r (DVs.take n t)
theorem DVs.drop : ∀ {ds : List Dv} {vs : List V} (n : Nat), DVs K ρ H ds vs → DVs K ρ H (ds.drop n) (vs.drop n)
  | _, _, 0, r => r
  | _, _, _ + 1, .nil => .nil
  | _, _, n + 1, .cons _ t => DVs.drop n t
theorem DVs.rep {ds : List Dv} {vs : List V} (h : DVs K ρ H ds vs) : ∀ k : Nat, DVs K ρ H (List.replicate k ds).flatten (List.replicate k vs).flatten
  | 0 => .nil
  | k + 1 => by
    rw [List.replicate_succ, List.replicate_succ, List.flatten_cons, List.flatten_cons]
    exact DVs.append h (DVs.rep h k)
end

/-- an instance's attributes -/
def FV (K : Frg) (ρ : List Addr) (H : Hp) (fs : List (Str × Dv)) (vfs : List (Str × V)) : Prop :=
  fs.map (·.1) = vfs.map (·.1) ∧ DVs K ρ H (fs.map (·.2)) (vfs.map (·.2))
def ObOk (K : Frg) (ct : Ct) (ρ : List Addr) (H : Hp) (a : Addr) : Ob → Prop
  | .lst ds => ∃ vs, H a = some (.lst vs) ∧ DVs K ρ H ds vs
  | .ins c fs => ∃ C dx vfs, ct c = some C ∧ H a = some (.ins C dx vfs) ∧ FV K ρ H fs vfs
  | .dct kvs => ∃ vs : List (Key × V), H a = some (.dK vs) ∧ kvs.map (·.1) = vs.map (·.1) ∧ DVs K ρ H (kvs.map (·.2)) (vs.map (·.2))
  | .dcn kvs => ∃ (xs : List (NestedKey × Addr × Value)) (vs : List V), H a = some (NDic ct.prg ct.wd a xs) ∧ kvs.map (·.1) = xs.map (·.1) ∧ (∀ p ∈ kvs, keyN p.2.1 = some p.1) ∧
      DVs K ρ H (kvs.map (·.2.1)) (xs.map fun x => V.ref x.2.1) ∧ DVs K ρ H (kvs.map (·.2.2)) vs ∧ Vals vs (xs.map (·.2.2))
  | .st xs => H a = some (.set (fun k => xs.any (· == k)) xs.length)
structure Rl (K : Frg) (ct : Ct) (ρ : List Addr) (M : Mem) (H : Hp) : Prop where
  len : ρ.length = M.length
  nd : ρ.Nodup
  ok : ∀ (n : Nat) o, M[n]? = some o → ∃ a, ρ[n]? = some a ∧ ObOk K ct ρ H a o
def EnOk (K : Frg) (ρ : List Addr) (H : Hp) (env : En) (σ : St) : Prop :=
  env.length = σ.length ∧ ∀ (i : Nat) d, env[i]? = some (some d) → ∃ v, σ[i]? = some (some v) ∧ DV K ρ H d v

section
variable {K : Frg} {ct : Ct} {ρ ρ' : List Addr} {M : Mem} {H H' : Hp} {a p : Addr}
theorem FV.mono {fs : List (Str × Dv)} {vfs : List (Str × V)} (h : FV K ρ H fs vfs) (e : Ext K ρ H ρ' H') : FV K ρ' H' fs vfs := ⟨h.1, h.2.mono e⟩
theorem ObOk.mono {o : Ob} (h : ObOk K ct ρ H a o) (e : Ext K ρ H ρ' H') (q : H' a = H a) : ObOk K ct ρ' H' a o := by
  cases o with
  | lst ds => obtain ⟨vs, h1, h2⟩ := h; exact ⟨vs, q.trans h1, h2.mono e⟩
  | ins c fs => obtain ⟨C, dx, vfs, h0, h1, h2⟩ := h; exact ⟨C, dx, vfs, h0, q.trans h1, h2.mono e⟩
  | dct kvs => obtain ⟨vs, h1, h2, h3⟩ := h; exact ⟨vs, q.trans h1, h2, h3.mono e⟩
  | dcn kvs => obtain ⟨xs, vs, h1, h2, h3, h4, h5, h6⟩ := h; exact ⟨xs, vs, q.trans h1, h2, h3, h4.mono e, h5.mono e, h6⟩
  | st xs => exact q.trans h
theorem ObOk.there {o : Ob} (h : ObOk K ct ρ H a o) : H a ≠ none := by
  cases o with
  | lst ds => obtain ⟨vs, h1, h2⟩ := h; rw [h1]; simp
  | ins c fs => obtain ⟨C, dx, vfs, h0, h1, h2⟩ := h; rw [h1]; simp
  | dct kvs => obtain ⟨vs, h1, h2, h3⟩ := h; rw [h1]; simp
  | dcn kvs => obtain ⟨xs, vs, h1, h2⟩ := h; rw [h1]; simp
  | st xs => rw [show H a = _ from h]; simp
theorem ObOk.soft {o : Ob} (h : ObOk K ct ρ H a o) : (∀ vs, H a ≠ some (.tup vs)) ∧ ∀ o u, H a ≠ some (.frz o u) := by
  cases o with
  | lst ds => obtain ⟨vs, h1, h2⟩ := h; rw [h1]; exact ⟨fun _ q => (by cases q), fun _ _ q => (by cases q)⟩
  | ins c fs => obtain ⟨C, dx, vfs, h0, h1, h2⟩ := h; rw [h1]; exact ⟨fun _ q => (by cases q), fun _ _ q => (by cases q)⟩
  | dct kvs => obtain ⟨vs, h1, h2, h3⟩ := h; rw [h1]; exact ⟨fun _ q => (by cases q), fun _ _ q => (by cases q)⟩
  | dcn kvs => obtain ⟨xs, vs, h1, h2⟩ := h; rw [h1]; exact ⟨fun _ q => (by cases q), fun _ _ q => (by cases q)⟩
  | st xs => rw [show H a = _ from h]; exact ⟨fun _ q => (by cases q), fun _ _ q => (by cases q)⟩
theorem EnOk.mono {env : En} {σ : St} (h : EnOk K ρ H env σ) (e : Ext K ρ H ρ' H') : EnOk K ρ' H' env σ :=
  ⟨h.1, fun i d q => let ⟨v, h1, h2⟩ := h.2 i d q; ⟨v, h1, h2.mono e⟩⟩
theorem EnOk.set {env : En} {σ : St} {d : Dv} {v : V} (h : EnOk K ρ H env σ) (i : Nat) (r : DV K ρ H d v) : EnOk K ρ H (env.set i (some d)) (σ.set i (some v)) := by
  refine ⟨by simp [h.1], fun j x q => ?_⟩
  by_cases hij : i = j
  · subst hij
    rw [List.getElem?_set] at q
    by_cases hl : i < env.length
    · rw [if_pos rfl, if_pos hl] at q
      cases q
      exact ⟨v, by rw [List.getElem?_set, if_pos rfl, if_pos (h.1 ▸ hl)], r⟩
    · rw [if_pos rfl, if_neg hl] at q; cases q
  · rw [List.getElem?_set_ne hij] at q
    obtain ⟨u, h1, h2⟩ := h.2 j x q
    exact ⟨u, by rw [List.getElem?_set_ne hij]; exact h1, h2⟩
theorem sqT_soft {vs : List V} {o' : HO} (h : SqT K H p vs) (ht : ∀ vs, H a ≠ some (.tup vs)) (hf : ∀ o u, H a ≠ some (.frz o u)) : SqT K (upd H a o') p vs := by
  rcases h with (h | ⟨o, h⟩) | h
  · have ne : p ≠ a := fun e => ht vs (e ▸ h)
    exact .inl (.inl (by rw [upd_ne ne]; exact h))
  · have ne : p ≠ a := fun e => hf o _ (e ▸ h)
    exact .inl (.inr ⟨o, by rw [upd_ne ne]; exact h⟩)
  · exact .inr h
theorem Ext.soft {o' : HO} (hp : ∀ (n : Nat) (a : Addr), ρ[n]? = some a → ρ'[n]? = some a) (ht : ∀ vs, H a ≠ some (.tup vs)) (hf : ∀ o u, H a ≠ some (.frz o u)) : Ext K ρ H ρ' (upd H a o') :=
  ⟨hp, fun b vs h => sqT_soft h ht hf, fun b o u h => by
    have ne : b ≠ a := fun e => hf o u (e ▸ h)
    rw [upd_ne ne]; exact h⟩
theorem Ext.fresh {o' : HO} (hn : H p = none) : Ext K ρ H ρ (upd H p o') :=
  Ext.soft (fun _ _ h => h) (fun _ q => by rw [hn] at q; cases q) fun _ _ q => by rw [hn] at q; cases q
theorem Rl.addr (r : Rl K ct ρ M H) {n : Nat} (h : ρ[n]? = some a) : ∃ o, M[n]? = some o ∧ ObOk K ct ρ H a o := by
  have hl : n < M.length := by
    rw [← r.len]
    exact (List.getElem?_eq_some_iff.mp h).1
  obtain ⟨b, h1, h2⟩ := r.ok n M[n] (List.getElem?_eq_getElem hl)
  rw [h] at h1; cases h1
  exact ⟨_, List.getElem?_eq_getElem hl, h2⟩
theorem Rl.ne (r : Rl K ct ρ M H) {n : Nat} (h : ρ[n]? = some a) (hn : H p = none) : a ≠ p := by
  obtain ⟨o, _, q⟩ := r.addr h
  intro e; subst e
  exact q.there hn
theorem Rl.tup (r : Rl K ct ρ M H) (hn : H p = none) (o' : HO) : Rl K ct ρ M (upd H p o') :=
  ⟨r.len, r.nd, fun n o h => by
    obtain ⟨b, h1, h2⟩ := r.ok n o h
    exact ⟨b, h1, h2.mono (Ext.fresh hn) (upd_ne (r.ne h1 hn))⟩⟩
theorem pre_app {p : Addr} : ∀ (n : Nat) (a : Addr), ρ[n]? = some a → (ρ ++ [p])[n]? = some a := fun n a h => by
  rw [List.getElem?_append_left (List.getElem?_eq_some_iff.mp h).1]; exact h
theorem Rl.notin (r : Rl K ct ρ M H) (hn : H p = none) : p ∉ ρ := fun hm => by
  obtain ⟨n, hn'⟩ := List.getElem?_of_mem hm
  exact r.ne hn' hn rfl
/-- a new cell -/
theorem Rl.new (r : Rl K ct ρ M H) {o : Ob} {o' : HO} (hn : H p = none) (ho : ObOk K ct (ρ ++ [p]) (upd H p o') p o) :
    Rl K ct (ρ ++ [p]) (M ++ [o]) (upd H p o') ∧ Ext K ρ H (ρ ++ [p]) (upd H p o') ∧ (ρ ++ [p])[M.length]? = some p := by
  have ex : Ext K ρ H (ρ ++ [p]) (upd H p o') := Ext.soft pre_app (fun _ q => by rw [hn] at q; cases q) fun _ _ q => by rw [hn] at q; cases q
  refine ⟨⟨by simp [r.len], ?_, fun n x h => ?_⟩, ex, by rw [← r.len]; simp⟩
  · rw [List.nodup_append]
    refine ⟨r.nd, by simp, fun x hx y hy e => ?_⟩
    have e2 : y = p := by simpa using hy
    subst e2; subst e
    exact r.notin hn hx
  · by_cases hl : n < M.length
    · rw [List.getElem?_append_left hl] at h
      obtain ⟨b, h1, h2⟩ := r.ok n x h
      exact ⟨b, pre_app n b h1, h2.mono ex (upd_ne (r.ne h1 hn))⟩
    · have hl2 : n = M.length := by
        have := (List.getElem?_eq_some_iff.mp h).1
        simp at this; omega
      subst hl2
      simp at h; subst h
      exact ⟨p, by rw [← r.len]; simp, ho⟩
/-- a cell written -/
theorem Rl.put (r : Rl K ct ρ M H) {n : Nat} {o : Ob} {o' : HO} (h : ρ[n]? = some a) (ho : ObOk K ct ρ (upd H a o') a o) :
    Rl K ct ρ (M.set n o) (upd H a o') ∧ Ext K ρ H ρ (upd H a o') := by
  obtain ⟨oo, hm, hk⟩ := r.addr h
  have ex : Ext K ρ H ρ (upd H a o') := Ext.soft (fun _ _ h => h) hk.soft.1 hk.soft.2
  refine ⟨⟨by simp [r.len], r.nd, fun m x hx => ?_⟩, ex⟩
  by_cases hmn : n = m
  · subst hmn
    rw [List.getElem?_set, if_pos rfl] at hx
    have hl := (List.getElem?_eq_some_iff.mp hm).1
    rw [if_pos hl] at hx
    cases hx
    exact ⟨a, h, ho⟩
  · rw [List.getElem?_set_ne hmn] at hx
    obtain ⟨b, h1, h2⟩ := r.ok m x hx
    refine ⟨b, h1, h2.mono ex (upd_ne fun e => ?_)⟩
    subst e
    obtain ⟨i1, e1⟩ := List.getElem?_eq_some_iff.mp h1
    obtain ⟨i2, e2⟩ := List.getElem?_eq_some_iff.mp h
    exact hmn ((List.getElem_inj r.nd).mp (e2.trans e1.symm))
theorem Rl.newL (r : Rl K ct ρ M H) {ds : List Dv} {vs : List V} (hn : H p = none) (hd : DVs K ρ H ds vs) :
    Rl K ct (ρ ++ [p]) (M ++ [.lst ds]) (upd H p (.lst vs)) ∧ Ext K ρ H (ρ ++ [p]) (upd H p (.lst vs)) ∧ (ρ ++ [p])[M.length]? = some p := by
  refine r.new hn ⟨vs, upd_same, hd.mono (Ext.soft pre_app (fun _ q => by rw [hn] at q; cases q) fun _ _ q => by rw [hn] at q; cases q)⟩
theorem Rl.putL (r : Rl K ct ρ M H) {n : Nat} {ds : List Dv} {vs : List V} (h : ρ[n]? = some a) (hd : DVs K ρ H ds vs) :
    Rl K ct ρ (M.set n (.lst ds)) (upd H a (.lst vs)) ∧ Ext K ρ H ρ (upd H a (.lst vs)) := by
  obtain ⟨oo, hm, hk⟩ := r.addr h
  exact r.put h ⟨vs, upd_same, hd.mono (Ext.soft (fun _ _ h => h) hk.soft.1 hk.soft.2)⟩
theorem Rl.lst (r : Rl K ct ρ M H) {n : Nat} {ds : List Dv} (hm : M[n]? = some (.lst ds)) {v : V} (hv : DV K ρ H (.loc n) v) :
    ∃ a vs, v = .ref a ∧ ρ[n]? = some a ∧ H a = some (.lst vs) ∧ DVs K ρ H ds vs := by
  obtain ⟨a, h1, vs, h2, h3⟩ := r.ok n _ hm
  cases hv with
  | loc h => rw [h] at h1; cases h1; exact ⟨_, vs, rfl, h, h2, h3⟩
end

/-! ## The judgements -/
def bnd {α β : Type} (r : Option (α × Mem)) (k : α → Mem → Option (β × Mem)) : Option (β × Mem) :=
  match r with
  | none => none
  | some (a, M) => k a M
theorem bnd_some {α β : Type} {r : Option (α × Mem)} {k : α → Mem → Option (β × Mem)} {y : β × Mem} (h : bnd r k = some y) : ∃ a M, r = some (a, M) ∧ k a M = some y := by
  cases r with
  | none => cases h
  | some p => exact ⟨p.1, p.2, rfl, h⟩

abbrev FE := En → Mem → Option (Dv × Mem)
abbrev FT := En → Mem → Option (Bool × Mem)
abbrev FA := En → Mem → Option (List Dv × Mem)

section
variable (K : Frg) (ct : Ct)
/-- what must follow: the end (d, M') and all that may stand for it -/
def Aft (ρ : List Addr) (H : Hp) (M' : Mem) (Z : List Addr → Hp → Prop) : Prop := ∀ ρ' H', Ext K ρ H ρ' H' → Rl K ct ρ' M' H' → Z ρ' H'
def tE (f : FE) : TE := fun σ H Q => ∃ ρ M env, Rl K ct ρ M H ∧ EnOk K ρ H env σ ∧ ∃ d M', f env M = some (d, M') ∧ Aft K ct ρ H M' fun ρ' H' => ∀ v, DV K ρ' H' d v → Q v H'
def tT (f : FT) : TT := fun σ H Q => ∃ ρ M env, Rl K ct ρ M H ∧ EnOk K ρ H env σ ∧ ∃ b M', f env M = some (b, M') ∧ Aft K ct ρ H M' fun _ H' => Q b H'
def tA (f : FA) : TA := fun σ H Q => ∃ ρ M env, Rl K ct ρ M H ∧ EnOk K ρ H env σ ∧ ∃ ds M', f env M = some (ds, M') ∧ Aft K ct ρ H M' fun ρ' H' => ∀ vs, DVs K ρ' H' ds vs → Q vs H'
def tO (h : Dv → Dv → Mem → Option (Dv × Mem)) : R2 := fun x y H Q => ∃ ρ M d e, Rl K ct ρ M H ∧ DV K ρ H d x ∧ DV K ρ H e y ∧ ∃ z M', h d e M = some (z, M') ∧ Aft K ct ρ H M' fun ρ' H' => ∀ v, DV K ρ' H' z v → Q v H'
def tU (h : Dv → Mem → Option (Dv × Mem)) : V → Hp → VK → Prop := fun x H Q => ∃ ρ M d, Rl K ct ρ M H ∧ DV K ρ H d x ∧ ∃ z M', h d M = some (z, M') ∧ Aft K ct ρ H M' fun ρ' H' => ∀ v, DV K ρ' H' z v → Q v H'
def tC (h : List Dv → Mem → Option (Dv × Mem)) : List V → Hp → VK → Prop := fun xs H Q => ∃ ρ M ds, Rl K ct ρ M H ∧ DVs K ρ H ds xs ∧ ∃ z M', h ds M = some (z, M') ∧ Aft K ct ρ H M' fun ρ' H' => ∀ v, DV K ρ' H' z v → Q v H'
end
theorem Aft.later {K : Frg} {ct : Ct} {ρ ρ1 : List Addr} {H H1 : Hp} {M' : Mem} {Z : List Addr → Hp → Prop} (h : Aft K ct ρ H M' Z) (e : Ext K ρ H ρ1 H1) : Aft K ct ρ1 H1 M' Z := fun ρ' H' x r => h ρ' H' (e.trans x) r

abbrev SE (X : Cx) (ct : Ct) (e : Expr) (f : FE) : Prop := PE X e (tE X.K ct f)
abbrev ST (X : Cx) (ct : Ct) (e : Expr) (f : FT) : Prop := PT X e (tT X.K ct f)
abbrev SW (X : Cx) (ct : Ct) (e : Expr) (f : FT) : Prop := PW X e (tT X.K ct f)
abbrev SA (X : Cx) (ct : Ct) (es : List Expr) (f : FA) : Prop := PA X es (tA X.K ct f)
abbrev SO (X : Cx) (ct : Ct) (g : Value → Value → Sem Value) (h : Dv → Dv → Mem → Option (Dv × Mem)) : Prop := OpR X g (tO X.K ct h)
abbrev SU (X : Cx) (ct : Ct) (g : Value → Sem Value) (h : Dv → Mem → Option (Dv × Mem)) : Prop := UnR X g (tU X.K ct h)
abbrev SC (X : Cx) (ct : Ct) (g : Value) (h : List Dv → Mem → Option (Dv × Mem)) : Prop := CallR X g (tC X.K ct h)

section
variable {X : Cx} {ct : Ct} {e a b c : Expr} {pos : Pos}
theorem PE.imp {t t' : TE} (h : PE X e t) (k : ∀ σ H Q, t' σ H Q → t σ H Q) : PE X e t' := ⟨fun pins s σ H Q I w => h.run pins s σ H Q I (k σ H Q w)⟩
theorem PT.imp {t t' : TT} (h : PT X e t) (k : ∀ σ H Q, t' σ H Q → t σ H Q) : PT X e t' := ⟨fun pins s σ H Q I w => h.run pins s σ H Q I (k σ H Q w)⟩
theorem PW.imp {t t' : TT} (h : PW X e t) (k : ∀ σ H Q, t' σ H Q → t σ H Q) : PW X e t' := ⟨fun wh pins s σ H Q I w => h.run wh pins s σ H Q I (k σ H Q w)⟩
theorem PA.imp {es : List Expr} {t t' : TA} (h : PA X es t) (k : ∀ σ H Q, t' σ H Q → t σ H Q) : PA X es t' := ⟨fun pos pins s σ H Q I w => h.run pos pins s σ H Q I (k σ H Q w)⟩

/-! ### names and constants -/
def fV (i : Nat) : FE := fun env M => match env[i]? with
  | some (some d) => some (d, M)
  | _ => none
def fK (d : Dv) : FE := fun _ M => some (d, M)
theorem tE.const {d : Dv} {v : V} {σ : St} {H : Hp} {Q : VK} (hv : ∀ ρ H, DV X.K ρ H d v) (h : tE X.K ct (fK d) σ H Q) : Q v H := by
  obtain ⟨ρ, M, env, r, he, d', M', hf, hq⟩ := h
  cases hf
  exact hq ρ H .refl r v (hv ρ H)
theorem se_var {i : Nat} {x : Str} (hN : X.N[i]? = some x) (hv : Vis X.env.scope x) (hd : (x == ("__debug__" : Str)) = false := by decide) (hcd : (x == ("__classdict__" : Str)) = false := by decide) : SE X ct (.Name x pos) (fV i) :=
  PE.imp (pe_var hN hv hd hcd) fun σ H Q ⟨ρ, M, env, r, he, d, M', hf, hq⟩ => by
    unfold fV at hf
    split at hf
    · rename_i d' e'
      cases hf
      obtain ⟨v, h1, h2⟩ := he.2 i _ e'
      exact ⟨v, h1, hq ρ H .refl r v h2⟩
    · cases hf
theorem se_int {i j} : SE X ct (.Constant (.int i) j pos) (fK (.int i)) := PE.imp pe_int fun _ _ _ h => tE.const (fun _ _ => .int i) h
theorem se_bl {b j} : SE X ct (.Constant (.bool b) j pos) (fK (.bl b)) := PE.imp pe_bl fun _ _ _ h => tE.const (fun _ _ => .bl b) h
theorem se_non {j} : SE X ct (.Constant .none j pos) (fK .non) := PE.imp pe_non fun _ _ _ h => tE.const (fun _ _ => .non) h
theorem se_str {x j} : SE X ct (.Constant (.str x) j pos) (fK (.str x)) := PE.imp pe_str fun _ _ _ h => tE.const (fun _ _ => .str x) h
/-- a module's constant -/
theorem se_glob {x : Str} {d : Dv} {v : V} {u : Value} (hg : Gl X x) (hm : X.mg x = some u) (r : RelV v u) (hv : ∀ ρ H, DV X.K ρ H d v) (hd : (x == ("__debug__" : Str)) = false := by decide) : SE X ct (.Name x pos) (fK d) :=
  PE.imp (pe_glob hg hm r hd) fun _ _ _ h => tE.const hv h

/-! ### operators -/
def fO (h : Dv → Dv → Mem → Option (Dv × Mem)) (fa fb : FE) : FE := fun env M => bnd (fa env M) fun x M1 => bnd (fb env M1) fun y M2 => h x y M2
def fU (h : Dv → Mem → Option (Dv × Mem)) (fa : FE) : FE := fun env M => bnd (fa env M) h
variable {fa fb fc : FE} {h : Dv → Dv → Mem → Option (Dv × Mem)}
theorem op_imp {σ : St} {H : Hp} {Q : VK} (w : tE X.K ct (fO h fa fb) σ H Q) : tOp (tO X.K ct h) (tE X.K ct fa) (tE X.K ct fb) σ H Q := by
  obtain ⟨ρ, M, env, r, he, d, M', hf, hq⟩ := w
  obtain ⟨x, M1, h1, hf⟩ := bnd_some hf
  obtain ⟨y, M2, h2, h3⟩ := bnd_some hf
  exact ⟨ρ, M, env, r, he, x, M1, h1, fun ρ1 H1 e1 r1 v dv => ⟨ρ1, M1, env, r1, he.mono e1, y, M2, h2, fun ρ2 H2 e2 r2 w dw => ⟨ρ2, M2, x, y, r2, dv.mono e2, dw, d, M', h3, hq.later (e1.trans e2)⟩⟩⟩
theorem se_op {op : Operator} (ho : SO X ct (binaryOp op) h) (ha : SE X ct a fa) (hb : SE X ct b fb) : SE X ct (.BinOp a op b pos) (fO h fa fb) :=
  PE.imp (pe_op ho ha hb) fun _ _ _ w => op_imp w
theorem se_cmp {op : CmpOp} (ho : SO X ct (compareOp op) h) (ha : SE X ct a fa) (hb : SE X ct b fb) (hm : behindInMarks op b = false) : SE X ct (.Compare a [op] [b] pos) (fO h fa fb) :=
  PE.imp (pe_cmpR ho ha hb hm) fun _ _ _ w => op_imp w
theorem se_un {op : UnaryOp} {h : Dv → Mem → Option (Dv × Mem)} (ho : SU X ct (unaryOp op) h) (ha : SE X ct a fa) : SE X ct (.UnaryOp op a pos) (fU h fa) :=
  PE.imp (pe_un ho ha) fun σ H Q ⟨ρ, M, env, r, he, d, M', hf, hq⟩ => by
    obtain ⟨x, M1, h1, hf⟩ := bnd_some hf
    exact ⟨ρ, M, env, r, he, x, M1, h1, fun ρ1 H1 e1 r1 v dv => ⟨ρ1, M1, x, r1, dv, d, M', hf, hq.later e1⟩⟩
/-- a < b < c -/
def fChain (h h' : Dv → Dv → Mem → Option (Dv × Mem)) (fa fb fc : FE) : FE := fun env M => bnd (fa env M) fun x M1 => bnd (fb env M1) fun y M2 => bnd (h x y M2) fun z M3 =>
  match z with
  | .bl true => bnd (fc env M3) fun w M4 => h' y w M4
  | .bl false => some (.bl false, M3)
  | _ => none
theorem se_chain {op op' : CmpOp} {h' : Dv → Dv → Mem → Option (Dv × Mem)} (ho : SO X ct (compareOp op) h) (ho' : SO X ct (compareOp op') h') (ha : SE X ct a fa) (hb : SE X ct b fb) (hc : SE X ct c fc)
    (hm : lastMarks [op, op'] [b, c] = false := by with_unfolding_all rfl) : SE X ct (.Compare a [op, op'] [b, c] pos) (fChain h h' fa fb fc) :=
  PE.imp (pe_chain ho ho' ha hb hc hm) fun σ H Q ⟨ρ, M, env, r, he, d, M', hf, hq⟩ => by
    obtain ⟨x, M1, h1, hf⟩ := bnd_some hf
    obtain ⟨y, M2, h2, hf⟩ := bnd_some hf
    obtain ⟨z, M3, h3, hf⟩ := bnd_some hf
    refine ⟨ρ, M, env, r, he, x, M1, h1, fun ρ1 H1 e1 r1 v dv => ⟨ρ1, M1, env, r1, he.mono e1, y, M2, h2, fun ρ2 H2 e2 r2 w dw => ⟨ρ2, M2, x, y, r2, dv.mono e2, dw, z, M3, h3, fun ρ3 H3 e3 r3 u du => ?_⟩⟩⟩
    split at hf
    · cases du
      obtain ⟨t, M4, h4, hf⟩ := bnd_some hf
      refine ⟨true, rfl, ?_⟩
      rw [if_pos rfl]
      exact ⟨ρ3, M3, env, r3, ((he.mono e1).mono e2).mono e3, t, M4, h4, fun ρ4 H4 e4 r4 u4 du4 => ⟨ρ4, M4, y, t, r4, (dw.mono e3).mono e4, du4, d, M', hf, hq.later (((e1.trans e2).trans e3).trans e4)⟩⟩
    · cases du
      cases hf
      refine ⟨false, rfl, ?_⟩
      rw [if_neg (by decide)]
      exact hq ρ3 H3 ((e1.trans e2).trans e3) r3 _ (.bl false)
    · cases hf
end
end Zl

/-! text Z2 -/
namespace Zl
open PySem L2

section
variable {X : Cx} {ct : Ct} {e a b c : Expr} {pos : Pos} {fa fb fc : FE} {ft fu : FT} {rest : List Expr}
/-! ### tests -/
/-- a value that is a bool, as a test -/
def fB (f : FE) : FT := fun env M => bnd (f env M) fun d M1 => match d with
  | .bl b => some (b, M1)
  | _ => none
theorem b_imp {t : TE} {σ : St} {H : Hp} {Q : Bool → Hp → Prop} (w : tT X.K ct (fB fa) σ H Q) : tTest (tE X.K ct fa) σ H Q := by
  obtain ⟨ρ, M, env, r, he, d, M', hf, hq⟩ := w
  obtain ⟨x, M1, h1, hf⟩ := bnd_some hf
  split at hf
  · cases hf
    exact ⟨ρ, M, env, r, he, _, _, h1, fun ρ1 H1 e1 r1 v dv => by cases dv; exact ⟨_, rfl, hq ρ1 H1 e1 r1⟩⟩
  · cases hf
theorem st_val (h : SE X ct e fa) (he : ∀ whole, isTrue e X.env whole = (do let v ← whole; standAt e.pos; holding [v] (truthy v)) := by intro _; rfl) : ST X ct e (fB fa) :=
  PT.imp (pt_val h he) fun _ _ _ w => b_imp (t := tE X.K ct fa) w
theorem st_cmp {op : CmpOp} {h : Dv → Dv → Mem → Option (Dv × Mem)} (ho : SO X ct (compareOp op) h) (ha : SE X ct a fa) (hb : SE X ct b fb) (hm : behindInMarks op b = false) : ST X ct (.Compare a [op] [b] pos) (fB (fO h fa fb)) :=
  PT.imp (pt_cmpR ho ha hb hm) fun σ H Q w => by
    obtain ⟨ρ, M, env, r, he, d, M', hf, hq⟩ := w
    obtain ⟨x, M1, h1, hf⟩ := bnd_some hf
    split at hf
    · cases hf
      exact op_imp ⟨ρ, M, env, r, he, _, _, h1, fun ρ1 H1 e1 r1 v dv => by cases dv; exact ⟨_, rfl, hq ρ1 H1 e1 r1⟩⟩
    · cases hf
theorem st_chain {op op' : CmpOp} {h h' : Dv → Dv → Mem → Option (Dv × Mem)} (ho : SO X ct (compareOp op) h) (ho' : SO X ct (compareOp op') h') (ha : SE X ct a fa) (hb : SE X ct b fb) (hc : SE X ct c fc)
    (hm : lastMarks [op, op'] [b, c] = false := by with_unfolding_all rfl) : ST X ct (.Compare a [op, op'] [b, c] pos) (fB (fChain h h' fa fb fc)) := by
  refine PT.imp (pt_chain ho ho' ha hb hc hm) fun σ H Q w => ?_
  obtain ⟨ρ, M, env, r, he, d, M', hf, hq⟩ := w
  obtain ⟨x0, M0, h0, hf0⟩ := bnd_some hf
  have hz : ∃ k, x0 = Dv.bl k ∧ d = k ∧ M' = M0 := by
    split at hf0
    · cases hf0; exact ⟨_, rfl, rfl, rfl⟩
    · cases hf0
  obtain ⟨k, rfl, rfl, rfl⟩ := hz
  obtain ⟨x, M1, h1, h0⟩ := bnd_some h0
  obtain ⟨y, M2, h2, h0⟩ := bnd_some h0
  obtain ⟨z, M3, h3, h0⟩ := bnd_some h0
  refine ⟨ρ, M, env, r, he, x, M1, h1, fun ρ1 H1 e1 r1 v dv => ⟨ρ1, M1, env, r1, he.mono e1, y, M2, h2, fun ρ2 H2 e2 r2 w dw => ⟨ρ2, M2, x, y, r2, dv.mono e2, dw, z, M3, h3, fun ρ3 H3 e3 r3 u du => ?_⟩⟩⟩
  split at h0
  · cases du
    obtain ⟨t, M4, h4, h0⟩ := bnd_some h0
    refine ⟨true, rfl, ?_⟩
    rw [if_pos rfl]
    exact ⟨ρ3, M3, env, r3, ((he.mono e1).mono e2).mono e3, t, M4, h4, fun ρ4 H4 e4 r4 u4 du4 => ⟨ρ4, M4, y, t, r4, (dw.mono e3).mono e4, du4, _, _, h0, fun ρ5 H5 e5 r5 u5 du5 => by
      cases du5
      exact ⟨_, rfl, hq ρ5 H5 ((((e1.trans e2).trans e3).trans e4).trans e5) r5⟩⟩⟩
  · cases du
    cases h0
    refine ⟨false, rfl, ?_⟩
    rw [if_neg (by decide)]
    exact ⟨_, rfl, hq ρ3 H3 ((e1.trans e2).trans e3) r3⟩
  · cases h0
/-- a value's truth -/
def fTr (f : FE) : FT := fun env M => bnd (f env M) fun d M1 => match d with
  | .non => some (false, M1)
  | .bl b => some (b, M1)
  | .int i => some (i != 0, M1)
  | .str x => if x.length ≤ sizeLine then some ((x.length : Int) != 0, M1) else none
  | .tup xs => some (!xs.isEmpty, M1)
  | .rol xs => some (!xs.isEmpty, M1)
  | .loc n => match M1[n]? with
    | some (.lst xs) => some (!xs.isEmpty, M1)
    | _ => none
  | _ => none
theorem isEmpty_dvs {K : Frg} {ρ : List Addr} {H : Hp} {ds : List Dv} {vs : List V} (h : DVs K ρ H ds vs) : vs.isEmpty = ds.isEmpty := by cases h <;> rfl
theorem st_truth (h : SE X ct e fa) (he : ∀ whole, isTrue e X.env whole = (do let v ← whole; standAt e.pos; holding [v] (truthy v)) := by intro _; rfl) : ST X ct e (fTr fa) :=
  PT.imp (pt_truth h he) fun σ H Q ⟨ρ, M, env, r, hen, d, M', hf, hq⟩ => by
    obtain ⟨x, M1, h1, hf⟩ := bnd_some hf
    refine ⟨ρ, M, env, r, hen, x, M1, h1, fun ρ1 H1 e1 r1 v dv => ?_⟩
    cases x with
    | non => cases hf; cases dv; exact ⟨_, rfl, hq ρ1 H1 e1 r1⟩
    | bl b => cases hf; cases dv; exact ⟨_, rfl, hq ρ1 H1 e1 r1⟩
    | int i => cases hf; cases dv; exact ⟨_, rfl, hq ρ1 H1 e1 r1⟩
    | str x =>
      dsimp only at hf
      split at hf
      · rename_i hl
        cases hf; cases dv; exact ⟨_, ⟨hl, rfl⟩, hq ρ1 H1 e1 r1⟩
      · cases hf
    | tup xs =>
      cases hf
      cases dv with
      | tup hs hd => exact ⟨_, .inr (.inl ⟨_, hs.sq, by rw [isEmpty_dvs hd]⟩), hq ρ1 H1 e1 r1⟩
    | rol xs =>
      cases hf
      cases dv with
      | rol hs hd => exact ⟨_, .inl ⟨_, hs.sq, by rw [isEmpty_dvs hd]⟩, hq ρ1 H1 e1 r1⟩
    | loc n =>
      dsimp only at hf
      split at hf
      · rename_i xs hm
        cases hf
        obtain ⟨a, vs, rfl, h2, h3, h4⟩ := r1.lst hm dv
        exact ⟨_, .inl ⟨vs, SqL.of h3, by rw [isEmpty_dvs h4]⟩, hq ρ1 H1 e1 r1⟩
      · cases hf
    | ty n => cases hf
    | pr xs => cases hf
/-- not -/
def fNotT (f : FT) : FT := fun env M => bnd (f env M) fun b M1 => some (!b, M1)
theorem st_not (h : ST X ct a ft) : ST X ct (.UnaryOp .Not a pos) (fNotT ft) :=
  PT.imp (pt_not h) fun σ H Q ⟨ρ, M, env, r, he, d, M', hf, hq⟩ => by
    obtain ⟨x, M1, h1, hf⟩ := bnd_some hf
    cases hf
    exact ⟨ρ, M, env, r, he, x, _, h1, fun ρ1 H1 e1 r1 => hq ρ1 H1 e1 r1⟩
def fAndT (f g : FT) : FT := fun env M => bnd (f env M) fun b M1 => if b then g env M1 else some (false, M1)
def fOrT (f g : FT) : FT := fun env M => bnd (f env M) fun b M1 => if b then some (true, M1) else g env M1
theorem sw_and1 (h : ST X ct a ft) : SW X ct (.BoolOp .And [a] pos) ft := pw_and1 h
theorem sw_or1 (h : ST X ct a ft) : SW X ct (.BoolOp .Or [a] pos) ft := pw_or1 h
theorem sw_and (h : ST X ct a ft) (k : SW X ct (.BoolOp .And (b :: rest) pos) fu) : SW X ct (.BoolOp .And (a :: b :: rest) pos) (fAndT ft fu) :=
  PW.imp (pw_and h k) fun σ H Q ⟨ρ, M, env, r, he, d, M', hf, hq⟩ => by
    obtain ⟨x, M1, h1, hf⟩ := bnd_some hf
    refine ⟨ρ, M, env, r, he, x, M1, h1, fun ρ1 H1 e1 r1 => ?_⟩
    cases x with
    | true =>
      rw [if_pos rfl]
      exact ⟨ρ1, M1, env, r1, he.mono e1, d, M', hf, hq.later e1⟩
    | false =>
      cases hf
      rw [if_neg (by decide)]
      exact hq ρ1 H1 e1 r1
theorem sw_or (h : ST X ct a ft) (k : SW X ct (.BoolOp .Or (b :: rest) pos) fu) : SW X ct (.BoolOp .Or (a :: b :: rest) pos) (fOrT ft fu) :=
  PW.imp (pw_or h k) fun σ H Q ⟨ρ, M, env, r, he, d, M', hf, hq⟩ => by
    obtain ⟨x, M1, h1, hf⟩ := bnd_some hf
    refine ⟨ρ, M, env, r, he, x, M1, h1, fun ρ1 H1 e1 r1 => ?_⟩
    cases x with
    | false =>
      rw [if_neg (by decide)]
      exact ⟨ρ1, M1, env, r1, he.mono e1, d, M', hf, hq.later e1⟩
    | true =>
      cases hf
      rw [if_pos rfl]
      exact hq ρ1 H1 e1 r1
theorem SW.st (h : SW X ct e ft) : ST X ct e ft := PW.pt h
/-! ### as values: all but the last one bools -/
def fAndV (f g : FE) : FE := fun env M => bnd (f env M) fun d M1 => match d with
  | .bl true => g env M1
  | .bl false => some (.bl false, M1)
  | _ => none
def fOrV (f g : FE) : FE := fun env M => bnd (f env M) fun d M1 => match d with
  | .bl true => some (.bl true, M1)
  | .bl false => g env M1
  | _ => none
theorem se_one {op} (h : SE X ct a fa) : SE X ct (.BoolOp op [a] pos) fa := pe_one h
theorem se_and (h : SE X ct a fa) (k : SE X ct (.BoolOp .And (b :: rest) pos) fb) : SE X ct (.BoolOp .And (a :: b :: rest) pos) (fAndV fa fb) :=
  PE.imp (pe_and h k) fun σ H Q ⟨ρ, M, env, r, he, d, M', hf, hq⟩ => by
    obtain ⟨x, M1, h1, hf⟩ := bnd_some hf
    refine ⟨ρ, M, env, r, he, x, M1, h1, fun ρ1 H1 e1 r1 v dv => ?_⟩
    split at hf
    · cases dv
      refine ⟨true, rfl, ?_⟩
      rw [if_pos rfl]
      exact ⟨ρ1, M1, env, r1, he.mono e1, d, M', hf, hq.later e1⟩
    · cases dv; cases hf
      refine ⟨false, rfl, ?_⟩
      rw [if_neg (by decide)]
      exact hq ρ1 H1 e1 r1 _ (.bl false)
    · cases hf
theorem se_or (h : SE X ct a fa) (k : SE X ct (.BoolOp .Or (b :: rest) pos) fb) : SE X ct (.BoolOp .Or (a :: b :: rest) pos) (fOrV fa fb) :=
  PE.imp (pe_or h k) fun σ H Q ⟨ρ, M, env, r, he, d, M', hf, hq⟩ => by
    obtain ⟨x, M1, h1, hf⟩ := bnd_some hf
    refine ⟨ρ, M, env, r, he, x, M1, h1, fun ρ1 H1 e1 r1 v dv => ?_⟩
    split at hf
    · cases dv; cases hf
      refine ⟨true, rfl, ?_⟩
      rw [if_pos rfl]
      exact hq ρ1 H1 e1 r1 _ (.bl true)
    · cases dv
      refine ⟨false, rfl, ?_⟩
      rw [if_neg (by decide)]
      exact ⟨ρ1, M1, env, r1, he.mono e1, d, M', hf, hq.later e1⟩
    · cases hf
def fNotV (f : FE) : FE := fun env M => bnd (f env M) fun d M1 => match d with
  | .bl b => some (.bl (!b), M1)
  | _ => none
theorem se_not (h : SE X ct a fa) : SE X ct (.UnaryOp .Not a pos) (fNotV fa) :=
  PE.imp (pe_not h) fun σ H Q ⟨ρ, M, env, r, he, d, M', hf, hq⟩ => by
    obtain ⟨x, M1, h1, hf⟩ := bnd_some hf
    refine ⟨ρ, M, env, r, he, x, M1, h1, fun ρ1 H1 e1 r1 v dv => ?_⟩
    split at hf
    · cases dv; cases hf
      exact ⟨_, rfl, hq ρ1 H1 e1 r1 _ (.bl _)⟩
    · cases hf
def fIf (f : FT) (g h : FE) : FE := fun env M => bnd (f env M) fun b M1 => if b then g env M1 else h env M1
theorem se_if (hc : ST X ct c ft) (ha : SE X ct a fa) (hb : SE X ct b fb) : SE X ct (.IfExp c a b pos) (fIf ft fa fb) :=
  PE.imp (pe_ifExp hc ha hb) fun σ H Q ⟨ρ, M, env, r, he, d, M', hf, hq⟩ => by
    obtain ⟨x, M1, h1, hf⟩ := bnd_some hf
    refine ⟨ρ, M, env, r, he, x, M1, h1, fun ρ1 H1 e1 r1 => ?_⟩
    cases x with
    | true =>
      rw [if_pos rfl]
      exact ⟨ρ1, M1, env, r1, he.mono e1, d, M', hf, hq.later e1⟩
    | false =>
      rw [if_neg (by decide)]
      exact ⟨ρ1, M1, env, r1, he.mono e1, d, M', hf, hq.later e1⟩

/-! ### argument lists, displays -/
variable {es : List Expr} {fr : FA}
def fNil : FA := fun _ M => some ([], M)
def fCons (f : FE) (g : FA) : FA := fun env M => bnd (f env M) fun d M1 => bnd (g env M1) fun ds M2 => some (d :: ds, M2)
theorem sa_nil : SA X ct [] fNil := PA.imp pa_nil fun σ H Q ⟨ρ, M, env, r, he, d, M', hf, hq⟩ => by
  cases hf
  exact hq ρ H .refl r _ .nil
theorem sa_cons (h : SE X ct e fa) (k : SA X ct es fr) (hs : starEach (e :: es) X.env = (false, eval e X.env) :: starEach es X.env := by rfl) : SA X ct (e :: es) (fCons fa fr) :=
  PA.imp (pa_cons h k hs) fun σ H Q ⟨ρ, M, env, r, he, d, M', hf, hq⟩ => by
    obtain ⟨x, M1, h1, hf⟩ := bnd_some hf
    obtain ⟨ys, M2, h2, hf⟩ := bnd_some hf
    cases hf
    exact ⟨ρ, M, env, r, he, x, M1, h1, fun ρ1 H1 e1 r1 v dv => ⟨ρ1, M1, env, r1, he.mono e1, ys, _, h2, fun ρ2 H2 e2 r2 vs dvs => hq ρ2 H2 (e1.trans e2) r2 _ (.cons (dv.mono e2) dvs)⟩⟩
/-- *e ahead of the rest -/
def fStar (f : FE) (g : FA) : FA := fun env M => bnd (f env M) fun d M1 => match d with
  | .tup xs => bnd (g env M1) fun ds M2 => some (xs ++ ds, M2)
  | _ => none
def fTup (f : FA) : FE := fun env M => bnd (f env M) fun ds M1 => if ds.length ≤ sizeLine then some (.tup ds, M1) else none
def fLst (f : FA) : FE := fun env M => bnd (f env M) fun ds M1 => if ds.length ≤ sizeLine then some (.loc M1.length, M1 ++ [.lst ds]) else none
/-- a new tuple, locked -/
theorem layT {pins : List (Addr × Obj)} {σ : St} {H : Hp} {s : Shared} {xs : List V} {us : List Value} {tk : Nat} (I : Inv X pins σ H s) (r : Vals xs us) (hz : xs.length ≤ sizeLine) :
    Inv X pins σ (upd H s.heap.objs.size (.frz { cls := .type "tuple", data := .seq us.toArray } (.tup xs))) { s with heap := s.heap.push { cls := .type "tuple", data := .seq us.toArray }, toks := tk } :=
  I.laid (fun _ _ q => Heap.get?_push_of_some _ q) (Nat.le_refl _) ⟨Heap.get?_push_size _ rfl, hz, us, r, PyProof.Rows.IsTup.new _ _⟩
theorem pe_tupF {x1} {t : TA} (h : PA X es t) : PE X (.Tuple es x1 pos) (fun σ H Q => t σ H fun xs H1 => xs.length ≤ sizeLine ∧ ∀ p o, H1 p = none → o.dict = none → Q (.ref p) (upd H1 p (.frz o (.tup xs)))) :=
  ⟨fun pins s σ H Q I hq => wpAny_Tuple_spliced (thn (h.run pos pins s σ H _ I hq) fun us s1 ⟨xs, H1, I1, r, z, q⟩ => ⟨r.length ▸ z,
    ⟨V.ref s1.heap.objs.size, _, layT (tk := s1.toks) I1 r z, rfl, q _ _ (I1.hok.fresh (Nat.le_refl _)) rfl⟩⟩)⟩
theorem se_tup {x1} (h : SA X ct es fr) : SE X ct (.Tuple es x1 pos) (fTup fr) :=
  PE.imp (pe_tupF h) fun σ H Q ⟨ρ, M, env, r, he, d, M', hf, hq⟩ => by
    obtain ⟨ys, M1, h1, hf⟩ := bnd_some hf
    split at hf
    · rename_i hl
      cases hf
      refine ⟨ρ, M, env, r, he, ys, _, h1, fun ρ1 H1 e1 r1 vs dvs => ⟨by rw [← dvs.length]; exact hl, fun p o hp ho => ?_⟩⟩
      exact hq ρ1 _ (e1.trans (Ext.fresh hp)) (r1.tup hp _) _ (.tup (TupD.new ho) (dvs.mono (Ext.fresh hp)))
    · cases hf
theorem se_lst (h : SA X ct es fr) : SE X ct (.List es pos) (fLst fr) :=
  PE.imp (pe_lst h) fun σ H Q ⟨ρ, M, env, r, he, d, M', hf, hq⟩ => by
    obtain ⟨ys, M1, h1, hf⟩ := bnd_some hf
    split at hf
    · rename_i hl
      cases hf
      refine ⟨ρ, M, env, r, he, ys, _, h1, fun ρ1 H1 e1 r1 vs dvs => ⟨by rw [← dvs.length]; exact hl, fun p hp => ?_⟩⟩
      obtain ⟨r2, e2, h2⟩ := r1.newL hp dvs
      exact hq _ _ (e1.trans e2) r2 _ (.loc h2)
    · cases hf
/-! ### a call of a built-in -/
def fC (h : List Dv → Mem → Option (Dv × Mem)) (f : FA) : FE := fun env M => bnd (f env M) h
variable {hc : List Dv → Mem → Option (Dv × Mem)} {id T : String} {x : Str} {p : Pos}
theorem c_imp {σ : St} {H : Hp} {Q : VK} (w : tE X.K ct (fC hc fr) σ H Q) : tCB (tC X.K ct hc) (tA X.K ct fr) σ H Q := by
  obtain ⟨ρ, M, env, r, he, d, M', hf, hq⟩ := w
  obtain ⟨ys, M1, h1, hf⟩ := bnd_some hf
  exact ⟨ρ, M, env, r, he, ys, M1, h1, fun ρ1 H1 e1 r1 vs dvs => ⟨ρ1, M1, ys, r1, dvs, d, M', hf, hq.later e1⟩⟩
theorem se_callB (h : SC X ct (.builtin id) hc) (hg : Gl X x) (hm : X.mg x = none) (hv : bootBuiltins x = some (.builtin id)) (ha : SA X ct (e :: es) fr) (hn : x ≠ "__name__" := by decide) (hdb : (x == ("__debug__" : Str)) = false := by decide)
    (he : starEach (e :: es) X.env = (false, eval e X.env) :: starEach es X.env := by rfl) (hpl : (backTo pos (starEach es X.env)).any (·.1) = false := by rfl) : SE X ct (.Call (.Name x p) (e :: es) [] pos) (fC hc fr) :=
  PE.imp (pe_callB h hg hm hv ha hn hdb he hpl) fun _ _ _ w => c_imp w
theorem se_callTy (h : SC X ct (.type T) hc) (hg : Gl X x) (hm : X.mg x = none) (hv : bootBuiltins x = some (.type T)) (ha : SA X ct (e :: es) fr) (hn : x ≠ "__name__" := by decide) (hdb : (x == ("__debug__" : Str)) = false := by decide)
    (he : starEach (e :: es) X.env = (false, eval e X.env) :: starEach es X.env := by rfl) (hpl : (backTo pos (starEach es X.env)).any (·.1) = false := by rfl) : SE X ct (.Call (.Name x p) (e :: es) [] pos) (fC hc fr) :=
  PE.imp (pe_callTy h hg hm hv ha hn hdb he hpl) fun _ _ _ w => c_imp w
end
end Zl

/-! text Z3 -/
namespace Zl
open PySem L2 PySem.Spec PyProof.Rows

abbrev Rz := Option (Dv × Mem)
section
variable {X : Cx}
/-- t + u, the sum locked -/
theorem op_catF : OpR X (binaryOp .Add) (fun x y H Q => ∃ a b xs ys, x = .ref a ∧ y = .ref b ∧ SqT X.K H a xs ∧ SqT X.K H b ys ∧ xs.length + ys.length ≤ sizeLine ∧
    (xs = [] → Q (.ref b) H) ∧ (xs ≠ [] → ys = [] → Q (.ref a) H) ∧ (xs ≠ [] → ys ≠ [] → ∀ p o, H p = none → o.dict = none → Q (.ref p) (upd H p (.frz o (.tup (xs ++ ys)))))) := by
  intro pins s σ H x y v u Q I rx ry h
  obtain ⟨a, b, xs, ys, rfl, rfl, ha, hb, hz, q0, q1, q2⟩ := h
  cases rx; cases ry
  obtain ⟨us, r1, p1, _⟩ := I.tuple ha
  obtain ⟨ws, r2, p2, _⟩ := I.tuple hb
  by_cases hx : xs = []
  · subst hx
    cases r1
    exact cat_tup0 p1 p2 ⟨V.ref b, H, I, rfl, q0 rfl⟩
  · have hu : us ≠ [] := fun e => hx (by subst e; cases r1; rfl)
    refine HT.cat_tup p1 p2 hu (fun e => ?_) (fun e => ?_) ?_
    · subst e; cases r2
      exact ⟨V.ref a, H, I, rfl, q1 hx rfl⟩
    · have hy : ys ≠ [] := fun e' => e (by subst e'; cases r2; rfl)
      exact ⟨V.ref s.heap.objs.size, _, layT (tk := s.toks) I (r1.append r2) (by rw [List.length_append]; exact hz), rfl, q2 hx hy _ _ (I.hok.fresh (Nat.le_refl _)) rfl⟩
    · have e1 := r1.length
      have e2 := r2.length
      omega
/-- t * k where nothing new is made: the tuple is empty, or k is 1 -/
theorem tmul_same (l : Addr) (items : Array Value) (n : Nat) (dd : Option Addr) (sl : Array (Option Value)) (x : Int) (u : Tok) (c0 : (decide (x < -(2 ^ 63)) || decide (x ≥ 2 ^ 63)) = false) (c1 : (items.isEmpty || x == 1) = true) :
    Meets (Builtin.«tuple.__mul__» ⟨[.ref l, .int x u], []⟩) (fun _ R s => s.heap.get? l = some { cls := .type "tuple", dict := dd, data := .seq items n, slots := sl } ∧ R (.ok (.ret (Value.ref l))) s) :=
  .of_wp fun prog w A R s h => by
    obtain ⟨hp, g, d, tk, os⟩ := s
    obtain ⟨hl, h⟩ := h
    have f1 := AutoSeq1.idx_int
    wp_walk using wpAny_loadPart' hl
    refine wpAny_ite_false (decide_eq_false (by rw [c0]; exact Bool.false_ne_true)) ?_
    wp_walk using wpAny_loadPart' hl
    exact ⟨_, rfl, h⟩
/-- t * k, k not above 0: a new empty tuple -/
theorem tmul_none (l : Addr) (items : Array Value) (n : Nat) (dd : Option Addr) (sl : Array (Option Value)) (x : Int) (u : Tok) (c0 : (decide (x < -(2 ^ 63)) || decide (x ≥ 2 ^ 63)) = false) (c1 : (items.isEmpty || x == 1) = false) (c2 : (decide (x ≤ 0) || items.isEmpty) = true) :
    Meets (Builtin.«tuple.__mul__» ⟨[.ref l, .int x u], []⟩) (fun _ R s => s.heap.get? l = some { cls := .type "tuple", dict := dd, data := .seq items n, slots := sl } ∧
      R (.ok (.ret (Value.ref s.heap.objs.size))) { s with heap := s.heap.push { cls := .type "tuple", data := .seq #[] } }) :=
  .of_wp fun prog w A R s h => by
    obtain ⟨hp, g, d, tk, os⟩ := s
    obtain ⟨hl, h⟩ := h
    have f1 := AutoSeq1.idx_int
    wp_walk using wpAny_loadPart' hl
    refine wpAny_ite_false (decide_eq_false (by rw [c0]; exact Bool.false_ne_true)) ?_
    wp_walk using wpAny_loadPart' hl
    exact ⟨_, rfl, h⟩
/-- t * k, whatever k: locked where it is new -/
theorem op_repF : OpR X (binaryOp .Mult) (fun x y H Q => ∃ l k xs, x = .ref l ∧ y = .int k ∧ SqT X.K H l xs ∧ -(2 ^ 63) ≤ k ∧ k < 2 ^ 63 ∧ xs.length * k.toNat ≤ sizeLine ∧
    (xs = [] ∨ k = 1 → Q (.ref l) H) ∧ (xs ≠ [] → k ≠ 1 → ∀ p o, H p = none → o.dict = none → Q (.ref p) (upd H p (.frz o (.tup (List.replicate k.toNat xs).flatten))))) := by
  intro pins s σ H x y v u Q I rx ry h
  obtain ⟨l, k, xs, rfl, rfl, hT, h1, h2, hz, q1, q2⟩ := h
  cases rx
  obtain ⟨t, rfl⟩ := ry
  obtain ⟨its, r, ⟨⟨cls, dd, data, sl⟩, ho, hc, n, hd⟩, hs⟩ := I.tuple hT
  simp only at hc hd
  subst hc hd
  have hle : its.length = xs.length := r.length.symm
  have c0 : (decide (k < -(2 ^ 63)) || decide (k ≥ 2 ^ 63)) = false := by
    rw [decide_eq_false (by omega), decide_eq_false (by omega)]; rfl
  have road : ∀ {S : PySem.Spec}, Meets (Builtin.«tuple.__mul__» ⟨[.ref l, .int k t], []⟩) S → S X.A (wants (EP X pins σ Q) X.xe) s → wpAny (model X.prog X.w) X.A (binaryOp .Mult (.ref l) (.int k t)) (EP X pins σ Q) X.xe s := fun {S} g hS =>
    wpAny_binaryOp_repeat_ref (T := "tuple") (U := "int") (by decide) ⟨_, ho, rfl⟩ (fun s' => typeIs_int s' k t) noFill_tuple_mul F.fills_int_mul F.slot_int_rmul repeat_tuple F.slot_int_index.lookup
      (call_meets F.slot_int_rmul (typeIs_int s k t) F.entry_int_rmul (F.args_int_rmul_2 _ _) (int_rmul_tuple k t l its.toArray n dd sl)
        ⟨ho, rfl, ⟨_, ho, rfl⟩, call_meets F.slot_tuple_mul ⟨_, ho, rfl⟩ F.entry_tuple_mul (F.args_tuple_mul_2 _ _) g hS⟩)
  by_cases hx : xs = []
  · subst hx
    cases r
    exact road (tmul_same l [].toArray n dd sl k t c0 rfl) ⟨ho, V.ref l, H, I, rfl, q1 (.inl rfl)⟩
  · have hn : its.toArray.isEmpty = false := by
      cases r with
      | nil => exact absurd rfl hx
      | cons _ _ => rfl
    by_cases hk : k = 1
    · subst hk
      exact road (tmul_same l _ n dd sl 1 t c0 (by rw [hn]; rfl)) ⟨ho, V.ref l, H, I, rfl, q1 (.inr rfl)⟩
    · have c1 : (its.toArray.isEmpty || k == 1) = false := by
        rw [hn, Bool.false_or]
        exact beq_eq_false_iff_ne.mpr hk
      by_cases h0 : k ≤ 0
      · refine road (tmul_none l _ n dd sl k t c0 c1 (by rw [decide_eq_true h0]; rfl)) ⟨ho, V.ref s.heap.objs.size, _, layT (us := []) (xs := []) (tk := s.toks) I .nil (Nat.zero_le _), rfl, ?_⟩
        have e := q2 hx hk s.heap.objs.size { cls := .type "tuple", data := .seq #[] } (I.hok.fresh (Nat.le_refl _)) rfl
        rw [show k.toNat = 0 by omega] at e
        exact e
      · have hm : ((its.toArray.size : Nat) : Int) * k ≤ 16777216 := by
          have e1 : ((its.toArray.size : Nat) : Int) * k = ((xs.length * k.toNat : Nat) : Int) := by
            rw [List.size_toArray, hle, Int.natCast_mul, Int.toNat_of_nonneg (by omega)]
          rw [e1]
          have : xs.length * k.toNat ≤ 16777216 := hz
          omega
        have flen : (List.replicate k.toNat its).flatten.length ≤ sizeLine := by
          rw [lm_len_rep_flat, hle, Nat.mul_comm]; exact hz
        have c4 : Builtin.Tuple.tupleTooMany (((its.toArray.size : Nat) : Int) * k) = false := by
          unfold Builtin.Tuple.tupleTooMany
          exact decide_eq_false (by rw [sizeLine_eq]; omega)
        refine road (tuple_mulW l its.toArray n dd sl k t c0 c1 (by rw [hn, Bool.or_false]; exact decide_eq_false h0) (by omega) c4 (by rw [size_rep, List.size_toArray]; exact flen)) ⟨ho, ?_⟩
        rw [size_rep]
        refine ⟨V.ref s.heap.objs.size, _, layT (tk := s.toks) I (r.rep k.toNat) ?_, rfl, q2 hx hk _ _ (I.hok.fresh (Nat.le_refl _)) rfl⟩
        rw [lm_len_rep_flat, Nat.mul_comm]; exact hz
end
section
variable {X : Cx} {ct : Ct}
/-! ### arithmetic -/
def addD : Dv → Dv → Mem → Rz
  | .int i, .int j, M => some (.int (i + j), M)
  | .str x, .str y, M => if x.length + y.length ≤ sizeLine then some (.str (x ++ y), M) else none
  | .tup xs, .tup ys, M => if xs.length + ys.length ≤ sizeLine then some (.tup (xs ++ ys), M) else none
  | .loc m, .loc n, M => match M[m]?, M[n]? with
    | some (.lst xs), some (.lst ys) => if xs.length + ys.length ≤ sizeLine then some (.loc M.length, M ++ [.lst (xs ++ ys)]) else none
    | _, _ => none
  | _, _, _ => none
theorem so_add : SO X ct (binaryOp .Add) addD := by
  intro pins s σ H x y v u Q I rx ry h
  obtain ⟨ρ, M, d, e, r, dx, dy, z, M', hf, hq⟩ := h
  unfold addD at hf
  split at hf
  · cases hf; cases dx; cases dy
    exact op_add pins s σ H _ _ v u Q I rx ry ⟨_, _, rfl, rfl, hq ρ H .refl r _ (.int _)⟩
  · split at hf
    · rename_i hl
      cases hf; cases dx; cases dy
      exact op_add_str pins s σ H _ _ v u Q I rx ry ⟨_, _, rfl, rfl, hl, hq ρ H .refl r _ (.str _)⟩
    · cases hf
  · split at hf
    · rename_i hl
      cases hf
      cases dx with
      | tup h1 d1 =>
        cases dy with
        | tup h2 d2 =>
          refine op_catF pins s σ H _ _ v u Q I rx ry ⟨_, _, _, _, rfl, rfl, h1.sq, h2.sq, by rw [← d1.length, ← d2.length]; exact hl, fun e1 => ?_, fun n1 e2 => ?_, fun n1 n2 p o hp ho => ?_⟩
          · subst e1
            cases d1
            exact hq ρ H .refl r _ (.tup h2 d2)
          · subst e2
            cases d2
            exact hq ρ H .refl r _ (.tup h1 (by rw [List.append_nil]; exact d1))
          · exact hq ρ _ (Ext.fresh hp) (r.tup hp _) _ (.tup (TupD.new ho) ((d1.append d2).mono (Ext.fresh hp)))
    · cases hf
  · split at hf
    · rename_i m n _ _ hm hn
      split at hf
      · rename_i hl
        cases hf
        obtain ⟨a, vs, rfl, a1, a2, a3⟩ := r.lst hm dx
        obtain ⟨b, ws, rfl, b1, b2, b3⟩ := r.lst hn dy
        refine op_cat pins s σ H _ _ v u Q I rx ry ⟨_, _, _, _, rfl, rfl, a2, b2, by rw [← a3.length, ← b3.length]; exact hl, fun p hp => ?_⟩
        obtain ⟨r2, e2, h2⟩ := r.newL hp (a3.append b3)
        exact hq _ _ e2 r2 _ (.loc h2)
      · cases hf
    · cases hf
  · cases hf
def subD : Dv → Dv → Mem → Rz
  | .int i, .int j, M => some (.int (i - j), M)
  | _, _, _ => none
theorem so_sub : SO X ct (binaryOp .Sub) subD := by
  intro pins s σ H x y v u Q I rx ry h
  obtain ⟨ρ, M, d, e, r, dx, dy, z, M', hf, hq⟩ := h
  unfold subD at hf
  split at hf
  · cases hf; cases dx; cases dy
    exact op_sub pins s σ H _ _ v u Q I rx ry ⟨_, _, rfl, rfl, hq ρ H .refl r _ (.int _)⟩
  · cases hf
theorem rep_nil : ∀ n : Nat, (List.replicate n ([] : List Dv)).flatten = []
  | 0 => rfl
  | n + 1 => by rw [List.replicate_succ, List.flatten_cons, rep_nil n]; rfl
theorem rep_one (xs : List Dv) : (List.replicate (1 : Int).toNat xs).flatten = xs := by simp
def mulD : Dv → Dv → Mem → Rz
  | .int i, .int j, M => if (-(2 ^ 64) < i ∧ i < 2 ^ 64) ∨ (-(2 ^ 64) < j ∧ j < 2 ^ 64) then some (.int (i * j), M) else none
  | .loc n, .int k, M => match M[n]? with
    | some (.lst xs) => if -(2 ^ 63) ≤ k ∧ k < 2 ^ 63 ∧ xs.length * k.toNat ≤ sizeLine then some (.loc M.length, M ++ [.lst (List.replicate k.toNat xs).flatten]) else none
    | _ => none
  | .tup xs, .int k, M => if -(2 ^ 63) ≤ k ∧ k < 2 ^ 63 ∧ xs.length * k.toNat ≤ sizeLine then some (.tup (List.replicate k.toNat xs).flatten, M) else none
  | _, _, _ => none
theorem so_mul : SO X ct (binaryOp .Mult) mulD := by
  intro pins s σ H x y v u Q I rx ry h
  obtain ⟨ρ, M, d, e, r, dx, dy, z, M', hf, hq⟩ := h
  unfold mulD at hf
  split at hf
  · split at hf
    · rename_i hl
      cases hf; cases dx; cases dy
      exact op_mul pins s σ H _ _ v u Q I rx ry ⟨_, _, rfl, rfl, hl, hq ρ H .refl r _ (.int _)⟩
    · cases hf
  · split at hf
    · rename_i n k _ _ hm
      split at hf
      · rename_i hl
        cases hf
        obtain ⟨a, vs, rfl, a1, a2, a3⟩ := r.lst hm dx
        cases dy
        refine op_rep pins s σ H _ _ v u Q I rx ry ⟨_, _, _, rfl, rfl, a2, hl.1, hl.2.1, by rw [← a3.length]; exact hl.2.2, fun p hp => ?_⟩
        obtain ⟨r2, e2, h2⟩ := r.newL hp (a3.rep _)
        exact hq _ _ e2 r2 _ (.loc h2)
      · cases hf
    · cases hf
  · split at hf
    · rename_i xs k _ hl
      cases hf
      cases dy
      cases dx with
      | tup h1 d1 =>
        refine op_repF pins s σ H _ _ v u Q I rx ry ⟨_, _, _, rfl, rfl, h1.sq, hl.1, hl.2.1, by rw [← d1.length]; exact hl.2.2, fun hs => ?_, fun _ _ p o hp ho => ?_⟩
        · refine hq ρ H .refl r _ (.tup h1 ?_)
          rcases hs with e | e
          · subst e; cases d1
            rw [rep_nil]; exact .nil
          · subst e
            rw [rep_one]; exact d1
        · exact hq ρ _ (Ext.fresh hp) (r.tup hp _) _ (.tup (TupD.new ho) ((d1.rep _).mono (Ext.fresh hp)))
    · cases hf
  · cases hf
def fdivD : Dv → Dv → Mem → Rz
  | .int i, .int j, M => if 0 < j ∧ j < 1073741824 then some (.int (i / j), M) else none
  | _, _, _ => none
theorem so_fdiv : SO X ct (binaryOp .FloorDiv) fdivD := by
  intro pins s σ H x y v u Q I rx ry h
  obtain ⟨ρ, M, d, e, r, dx, dy, z, M', hf, hq⟩ := h
  unfold fdivD at hf
  split at hf
  · split at hf
    · rename_i hl
      cases hf; cases dx; cases dy
      exact op_fdiv pins s σ H _ _ v u Q I rx ry ⟨_, _, rfl, rfl, hl, hq ρ H .refl r _ (.int _)⟩
    · cases hf
  · cases hf
def modD : Dv → Dv → Mem → Rz
  | .int i, .int j, M => if 0 < j then some (.int (i % j), M) else none
  | _, _, _ => none
theorem so_mod : SO X ct (binaryOp .Mod) modD := by
  intro pins s σ H x y v u Q I rx ry h
  obtain ⟨ρ, M, d, e, r, dx, dy, z, M', hf, hq⟩ := h
  unfold modD at hf
  split at hf
  · split at hf
    · rename_i hl
      cases hf; cases dx; cases dy
      exact op_mod pins s σ H _ _ v u Q I rx ry ⟨_, _, rfl, rfl, hl, hq ρ H .refl r _ (.int _)⟩
    · cases hf
  · cases hf
def powD : Dv → Dv → Mem → Rz
  | .int i, .int j, M => if 0 ≤ j ∧ j ≤ 1000 ∧ i.natAbs < 2 ^ 64 then some (.int (i ^ j.toNat), M) else none
  | _, _, _ => none
theorem so_pow : SO X ct (binaryOp .Pow) powD := by
  intro pins s σ H x y v u Q I rx ry h
  obtain ⟨ρ, M, d, e, r, dx, dy, z, M', hf, hq⟩ := h
  unfold powD at hf
  split at hf
  · split at hf
    · rename_i hl
      cases hf; cases dx; cases dy
      exact op_pow pins s σ H _ _ v u Q I rx ry ⟨_, _, rfl, rfl, ⟨hl.1, by omega, hl.2.2⟩, hq ρ H .refl r _ (.int _)⟩
    · cases hf
  · cases hf
def negD : Dv → Mem → Rz
  | .int i, M => some (.int (-i), M)
  | _, _ => none
theorem su_neg : SU X ct (unaryOp .USub) negD := by
  intro pins s σ H x v Q I rx h
  obtain ⟨ρ, M, d, r, dx, z, M', hf, hq⟩ := h
  unfold negD at hf
  split at hf
  · cases hf; cases dx
    exact un_neg pins s σ H _ v Q I rx ⟨_, rfl, hq ρ H .refl r _ (.int _)⟩
  · cases hf

/-! ### the order of ints -/
def cmpI (p : Int → Int → Bool) : Dv → Dv → Mem → Rz
  | .int i, .int j, M => some (.bl (p i j), M)
  | _, _, _ => none
theorem so_cmpI {op : CmpOp} {p : Int → Int → Bool} (h0 : OpR X (compareOp op) (rI0 fun i j => .bl (p i j))) : SO X ct (compareOp op) (cmpI p) := by
  intro pins s σ H x y v u Q I rx ry h
  obtain ⟨ρ, M, d, e, r, dx, dy, z, M', hf, hq⟩ := h
  unfold cmpI at hf
  split at hf
  · cases hf; cases dx; cases dy
    exact h0 pins s σ H _ _ v u Q I rx ry ⟨_, _, rfl, rfl, hq ρ H .refl r _ (.bl _)⟩
  · cases hf
abbrev ltD := cmpI fun i j => decide (i < j)
abbrev leD := cmpI fun i j => decide (i ≤ j)
abbrev gtD := cmpI fun i j => decide (j < i)
abbrev geD := cmpI fun i j => decide (j ≤ i)
theorem so_lt : SO X ct (compareOp .Lt) ltD := so_cmpI op_lt
theorem so_le : SO X ct (compareOp .LtE) leD := so_cmpI op_le
theorem so_gt : SO X ct (compareOp .Gt) gtD := so_cmpI op_gt
theorem so_ge : SO X ct (compareOp .GtE) geD := so_cmpI op_ge

/-! ### data as a whole: ==, repr -/
def rdL (f : Dv → Option PyData) : List Dv → Option (List PyData)
  | [] => some []
  | x :: xs => match f x with
    | none => none
    | some p => match rdL f xs with
      | none => none
      | some ps => some (p :: ps)
def rd (M : Mem) : Nat → Dv → Option PyData
  | _, .non => some .none
  | _, .bl b => some (.bool b)
  | _, .int i => some (.int i)
  | _, .str x => some (.str x)
  | _, .ty _ => none
  | _, .pr _ => none
  | 0, _ => none
  | n + 1, .tup xs => match rdL (rd M n) xs with
    | some ps => some (.tuple ps)
    | none => none
  | n + 1, .rol xs => match rdL (rd M n) xs with
    | some ps => some (.list ps)
    | none => none
  | n + 1, .loc k => match M[k]? with
    | some (.lst xs) => match rdL (rd M n) xs with
      | some ps => some (.list ps)
      | none => none
    | _ => none
section
variable {K : Frg} {ρ : List Addr} {M : Mem} {H : Hp}
theorem rdL_dp {f : Dv → Option PyData} (hf : ∀ d v p, DV K ρ H d v → f d = some p → Dp K H v p) : ∀ {xs : List Dv} {vs : List V} {ps : List PyData}, DVs K ρ H xs vs → rdL f xs = some ps → DpAll K H vs ps
  | _, _, _, .nil, e => by cases e; exact .nil
  | _, _, _, .cons h t, e => by
    unfold rdL at e
    split at e
    · cases e
    · rename_i p hp
      split at e
      · cases e
      · rename_i qs hq
        cases e
        exact .cons (hf _ _ _ h hp) (rdL_dp hf t hq)
theorem rd_dp (r : Rl K ct ρ M H) : ∀ (n : Nat) {d : Dv} {v : V} {p : PyData}, DV K ρ H d v → rd M n d = some p → Dp K H v p
  | _, .non, _, _, h, e => by cases h; simp [rd] at e; subst e; exact .non
  | _, .bl b, _, _, h, e => by cases h; simp [rd] at e; subst e; exact .bl b
  | _, .int i, _, _, h, e => by cases h; simp [rd] at e; subst e; exact .int i
  | _, .str x, _, _, h, e => by cases h; simp [rd] at e; subst e; exact .str x
  | _, .ty _, _, _, h, e => by simp [rd] at e
  | _, .pr _, _, _, h, e => by simp [rd] at e
  | 0, .tup _, _, _, _, e => by simp [rd] at e
  | 0, .rol _, _, _, _, e => by simp [rd] at e
  | 0, .loc _, _, _, _, e => by simp [rd] at e
  | n + 1, .tup xs, _, _, h, e => by
    unfold rd at e
    split at e
    · rename_i ps hp
      cases e
      cases h with
      | tup hs hd => exact .tup hs.sq (rdL_dp (fun d v p h1 h2 => rd_dp r n h1 h2) hd hp)
    · cases e
  | n + 1, .rol xs, _, _, h, e => by
    unfold rd at e
    split at e
    · rename_i ps hp
      cases e
      cases h with
      | rol hs hd => exact .lst hs.sq (rdL_dp (fun d v p h1 h2 => rd_dp r n h1 h2) hd hp)
    · cases e
  | n + 1, .loc k, _, _, h, e => by
    unfold rd at e
    split at e
    · rename_i xs hm
      split at e
      · rename_i ps hp
        cases e
        obtain ⟨a, vs, rfl, a1, a2, a3⟩ := r.lst hm h
        exact .lst (SqL.of a2) (rdL_dp (fun d v p h1 h2 => rd_dp r n h1 h2) a3 hp)
      · cases e
    · cases e
end
def deep : Nat := 30
def eqD (neg : Bool) : Dv → Dv → Mem → Rz
  | .int i, .int j, M => some (.bl (xor neg (i == j)), M)
  | .str x, .str y, M => some (.bl (xor neg (x == y)), M)
  | x, y, M => match rd M deep x, rd M deep y with
    | some p, some q => if SeqAt.shaped p = true ∧ SeqAt.shaped q = true then some (.bl (xor neg (PyData.eqv p q)), M) else none
    | _, _ => none
theorem so_eq (hu : X.A.units + 64 < cLine) : SO X ct (compareOp .Eq) (eqD false) := by
  intro pins s σ H x y v u Q I rx ry h
  obtain ⟨ρ, M, d, e, r, dx, dy, z, M', hf, hq⟩ := h
  unfold eqD at hf
  split at hf
  · cases hf; cases dx; cases dy
    refine op_eq pins s σ H _ _ v u Q I rx ry ⟨rfl, ?_⟩
    rw [dec_int]
    exact hq ρ H .refl r _ (by rw [Bool.false_xor]; exact .bl _)
  · cases hf; cases dx; cases dy
    refine op_eq pins s σ H _ _ v u Q I rx ry ⟨rfl, ?_⟩
    rw [dec_str]
    exact hq ρ H .refl r _ (by rw [Bool.false_xor]; exact .bl _)
  · split at hf
    · rename_i p q hp hq'
      split at hf
      · rename_i hs
        cases hf
        exact op_eqD hu pins s σ H _ _ v u Q I rx ry ⟨p, q, rd_dp r _ dx hp, rd_dp r _ dy hq', hs.1, hs.2, hq ρ H .refl r _ (by rw [Bool.false_xor]; exact .bl _)⟩
      · cases hf
    · cases hf
theorem so_ne (hu : X.A.units + 64 < cLine) : SO X ct (compareOp .NotEq) (eqD true) := by
  intro pins s σ H x y v u Q I rx ry h
  obtain ⟨ρ, M, d, e, r, dx, dy, z, M', hf, hq⟩ := h
  unfold eqD at hf
  split at hf
  · cases hf; cases dx; cases dy
    refine op_ne pins s σ H _ _ v u Q I rx ry ⟨rfl, ?_⟩
    rw [dec_int]
    exact hq ρ H .refl r _ (by rw [Bool.true_xor]; exact .bl _)
  · cases hf; cases dx; cases dy
    refine op_ne pins s σ H _ _ v u Q I rx ry ⟨rfl, ?_⟩
    rw [dec_str]
    exact hq ρ H .refl r _ (by rw [Bool.true_xor]; exact .bl _)
  · split at hf
    · rename_i p q hp hq'
      split at hf
      · rename_i hs
        cases hf
        exact op_neD hu pins s σ H _ _ v u Q I rx ry ⟨p, q, rd_dp r _ dx hp, rd_dp r _ dy hq', hs.1, hs.2, hq ρ H .refl r _ (by rw [Bool.true_xor]; exact .bl _)⟩
      · cases hf
    · cases hf
/-! ### is None -/
def isNon : Dv → Bool
  | .non => true
  | _ => false
theorem isNon_of {K : Frg} {ρ : List Addr} {H : Hp} {d : Dv} {v : V} (h : DV K ρ H d v) : decide (v = .non) = isNon d := by cases h <;> rfl
def isD (neg : Bool) : Dv → Dv → Mem → Rz
  | d, .non, M => some (.bl (xor neg (isNon d)), M)
  | _, _, _ => none
theorem so_is : SO X ct (compareOp .Is) (isD false) := by
  intro pins s σ H x y v u Q I rx ry h
  obtain ⟨ρ, M, d, e, r, dx, dy, z, M', hf, hq⟩ := h
  unfold isD at hf
  split at hf
  · cases hf; cases dy
    exact op_isN pins s σ H _ _ v u Q I rx ry ⟨rfl, hq ρ H .refl r _ (by rw [isNon_of dx, Bool.false_xor]; exact .bl _)⟩
  · cases hf
theorem so_isnot : SO X ct (compareOp .IsNot) (isD true) := by
  intro pins s σ H x y v u Q I rx ry h
  obtain ⟨ρ, M, d, e, r, dx, dy, z, M', hf, hq⟩ := h
  unfold isD at hf
  split at hf
  · cases hf; cases dy
    exact op_notN pins s σ H _ _ v u Q I rx ry ⟨rfl, hq ρ H .refl r _ (by rw [isNon_of dx, Bool.true_xor]; exact .bl _)⟩
  · cases hf
end
end Zl

/-! text Z4 -/
namespace Zl
open PySem L2 PySem.Spec PyProof.Rows

/-! ### flat values -/
def flatD : Dv → Bool
  | .non => true
  | .bl _ => true
  | .int _ => true
  | .str _ => true
  | _ => false
def eqF : Dv → Dv → Bool
  | .non, .non => true
  | .bl a, .bl b => a == b
  | .bl a, .int b => (if a then 1 else 0) == b
  | .int a, .bl b => a == (if b then 1 else 0)
  | .int a, .int b => a == b
  | .str a, .str b => a == b
  | _, _ => false
def idxB (p : Dv → Bool) : List Dv → Option Nat
  | [] => none
  | y :: ys => if p y then some 0 else match idxB p ys with
    | some n => some (n + 1)
    | none => none
theorem idxB_some {p : Dv → Bool} : ∀ {ys : List Dv} {j : Nat}, idxB p ys = some j → (∃ z, ys[j]? = some z ∧ p z = true) ∧ ∀ (m : Nat) z, m < j → ys[m]? = some z → p z = false
  | [], j, h => by cases h
  | y :: ys, j, h => by
    unfold idxB at h
    split at h
    · rename_i hp
      cases h
      exact ⟨⟨y, rfl, hp⟩, fun m z hm => absurd hm (Nat.not_lt_zero m)⟩
    · rename_i hp
      split at h
      · rename_i n hn
        cases h
        obtain ⟨⟨z, h1, h2⟩, h3⟩ := idxB_some hn
        refine ⟨⟨z, by simpa using h1, h2⟩, fun m w hm hw => ?_⟩
        cases m with
        | zero => simp at hw; subst hw; simpa using hp
        | succ m => exact h3 m w (by omega) (by simpa using hw)
      · cases h
section
variable {K : Frg} {ρ : List Addr} {H : Hp}
theorem flat_of {d : Dv} {v : V} (h : DV K ρ H d v) : flatV v = flatD d := by cases h <;> rfl
theorem flats_of : ∀ {ds : List Dv} {vs : List V}, DVs K ρ H ds vs → vs.all flatV = ds.all flatD
  | _, _, .nil => rfl
  | _, _, .cons h t => by rw [List.all_cons, List.all_cons, flat_of h, flats_of t]
theorem eq_of {d e : Dv} {v u : V} (h : DV K ρ H d v) (h' : DV K ρ H e u) (f : flatD d = true) (f' : flatD e = true) : eqV v u = eqF d e := by
  cases h <;> cases h' <;> first | rfl | (exact absurd f (by decide)) | (exact absurd f' (by decide))
theorem any_of {x : Dv} {u : V} (hx : DV K ρ H x u) (fx : flatD x = true) : ∀ {ds : List Dv} {vs : List V}, DVs K ρ H ds vs → ds.all flatD = true → (vs.any fun y => eqV y u) = ds.any fun y => eqF y x
  | _, _, .nil, _ => rfl
  | _, _, .cons h t, f => by
    rw [List.all_cons, Bool.and_eq_true] at f
    rw [List.any_cons, List.any_cons, eq_of h hx f.1 fx, any_of hx fx t f.2]
theorem DVs.at_ {ds : List Dv} {vs : List V} {i : Int} {d : Dv} (h : DVs K ρ H ds vs) (e : atI ds i = some d) : ∃ v, atI vs i = some v ∧ DV K ρ H d v := by
  unfold atI at e ⊢
  rw [← h.length]
  cases q : ixN ds.length i with
  | none => rw [q] at e; cases e
  | some j =>
    rw [q] at e
    exact h.get e
theorem DVs.back : ∀ {ds : List Dv} {vs : List V} {i : Nat} {v : V}, DVs K ρ H ds vs → vs[i]? = some v → ∃ d, ds[i]? = some d ∧ DV K ρ H d v
  | _, _, _, _, .nil, e => by simp at e
  | _, _, 0, _, .cons h _, e => by simp at e; subst e; exact ⟨_, rfl, h⟩
  | _, _, i + 1, v, .cons _ r, e => by
    obtain ⟨u, h1, h2⟩ := DVs.back (i := i) (v := v) r (by simpa using e)
    exact ⟨u, by simpa using h1, h2⟩
end

section
variable {X : Cx} {ct : Ct} {e a b : Expr} {es : List Expr} {pos p : Pos} {fa fb : FE} {fr : FA}
/-! ### in -/
def inD (neg : Bool) : Dv → Dv → Mem → Rz
  | x, .tup ys, M => if flatD x && ys.all flatD then some (.bl (xor neg (ys.any fun y => eqF y x)), M) else none
  | x, .loc n, M => match M[n]? with
    | some (.lst ys) => if flatD x && ys.all flatD then some (.bl (xor neg (ys.any fun y => eqF y x)), M) else
      match rd M deep x, rdL (rd M deep) ys with
      | some p, some ps => if SeqAt.shaped p = true ∧ SeqAt.shaped (.list ps) = true then some (.bl (xor neg (ps.any fun z => PyData.eqv z p)), M) else none
      | _, _ => none
    | _ => none
  | .str x, .str y, M => match x.cps.toList with
    | [c] => some (.bl (xor neg (decide (c ∈ y.cps.toList))), M)
    | _ => none
  | _, _, _ => none
theorem one_sign {x : Str} {c : Nat} (h : x.cps.toList = [c]) : x = ⟨#[c]⟩ := by
  obtain ⟨a⟩ := x
  have : a = #[c] := by
    apply Array.toList_inj.mp
    simpa using h
  rw [this]
theorem so_in (hu : X.A.units + 65 < cLine) : SO X ct (compareOp .In) (inD false) := by
  intro pins s σ H x y v u Q I rx ry h
  obtain ⟨ρ, M, d, e, r, dx, dy, z, M', hf, hq⟩ := h
  unfold inD at hf
  split at hf
  · split at hf
    · rename_i hl
      rw [Bool.and_eq_true] at hl
      cases hf
      cases dy with
      | tup hs hd =>
        refine op_in_seq pins s σ H _ _ v u Q I rx ry ⟨_, _, rfl, .inr hs.sq, by rw [flat_of dx]; exact hl.1, by rw [flats_of hd]; exact hl.2, ?_⟩
        rw [if_neg (by decide)]
        refine hq ρ H .refl r _ ?_
        rw [Bool.false_xor]
        unfold inV
        rw [any_of dx hl.1 hd hl.2]
        exact .bl _
    · cases hf
  · split at hf
    · rename_i n M0 _ _ ys hm
      obtain ⟨a, vs, rfl, h1, h2, h3⟩ := r.lst hm dy
      split at hf
      · rename_i hl
        rw [Bool.and_eq_true] at hl
        cases hf
        refine op_in_seq pins s σ H _ _ v u Q I rx ry ⟨_, _, rfl, .inl (SqL.of h2), by rw [flat_of dx]; exact hl.1, by rw [flats_of h3]; exact hl.2, ?_⟩
        rw [if_neg (by decide)]
        refine hq ρ H .refl r _ ?_
        rw [Bool.false_xor]
        unfold inV
        rw [any_of dx hl.1 h3 hl.2]
        exact .bl _
      · split at hf
        · rename_i p ps hp hps
          split at hf
          · rename_i hs
            cases hf
            refine op_inD hu pins s σ H _ _ v u Q I rx ry ⟨p, ps, rd_dp r _ dx hp, .lst (SqL.of h2) (rdL_dp (fun d v p h1 h2 => rd_dp r _ h1 h2) h3 hps), hs.1, hs.2, ?_⟩
            exact hq ρ H .refl r _ (by rw [Bool.false_xor]; exact .bl _)
          · cases hf
        · cases hf
    · cases hf
  · split at hf
    · rename_i c hc
      cases hf; cases dx; cases dy
      exact op_in_sign pins s σ H _ _ v u Q I rx ry ⟨c, _, by rw [one_sign hc], rfl, hq ρ H .refl r _ (by rw [Bool.false_xor]; exact .bl _)⟩
    · cases hf
  · cases hf
theorem so_notin (hu : X.A.units + 65 < cLine) : SO X ct (compareOp .NotIn) (inD true) := by
  intro pins s σ H x y v u Q I rx ry h
  obtain ⟨ρ, M, d, e, r, dx, dy, z, M', hf, hq⟩ := h
  unfold inD at hf
  split at hf
  · split at hf
    · rename_i hl
      rw [Bool.and_eq_true] at hl
      cases hf
      cases dy with
      | tup hs hd =>
        refine op_notIn_seq pins s σ H _ _ v u Q I rx ry ⟨_, _, rfl, .inr hs.sq, by rw [flat_of dx]; exact hl.1, by rw [flats_of hd]; exact hl.2, ?_⟩
        rw [if_pos rfl]
        refine hq ρ H .refl r _ ?_
        rw [Bool.true_xor]
        unfold inV
        rw [any_of dx hl.1 hd hl.2]
        exact .bl _
    · cases hf
  · split at hf
    · rename_i n M0 _ _ ys hm
      obtain ⟨a, vs, rfl, h1, h2, h3⟩ := r.lst hm dy
      split at hf
      · rename_i hl
        rw [Bool.and_eq_true] at hl
        cases hf
        refine op_notIn_seq pins s σ H _ _ v u Q I rx ry ⟨_, _, rfl, .inl (SqL.of h2), by rw [flat_of dx]; exact hl.1, by rw [flats_of h3]; exact hl.2, ?_⟩
        rw [if_pos rfl]
        refine hq ρ H .refl r _ ?_
        rw [Bool.true_xor]
        unfold inV
        rw [any_of dx hl.1 h3 hl.2]
        exact .bl _
      · split at hf
        · rename_i p ps hp hps
          split at hf
          · rename_i hs
            cases hf
            refine op_notInD hu pins s σ H _ _ v u Q I rx ry ⟨p, ps, rd_dp r _ dx hp, .lst (SqL.of h2) (rdL_dp (fun d v p h1 h2 => rd_dp r _ h1 h2) h3 hps), hs.1, hs.2, ?_⟩
            exact hq ρ H .refl r _ (by rw [Bool.true_xor]; exact .bl _)
          · cases hf
        · cases hf
    · cases hf
  · split at hf
    · rename_i c hc
      cases hf; cases dx; cases dy
      exact op_notIn_sign pins s σ H _ _ v u Q I rx ry ⟨c, _, by rw [one_sign hc], rfl, hq ρ H .refl r _ (by rw [Bool.true_xor]; exact .bl _)⟩
    · cases hf
  · cases hf
/-! ### subscripts -/
def ixD : Dv → Dv → Mem → Rz
  | .tup xs, .int i, M => match atI xs i with
    | some d => some (d, M)
    | none => none
  | .pr xs, .int i, M => match atI xs i with
    | some d => some (d, M)
    | none => none
  | .rol xs, .int i, M => match atI xs i with
    | some d => some (d, M)
    | none => none
  | .loc n, .int i, M => match M[n]? with
    | some (.lst xs) => match atI xs i with
      | some d => some (d, M)
      | none => none
    | _ => none
  | .str x, .int i, M => if x.length ≤ sizeLine then match atI x.cps.toList i with
      | some c => some (.str ⟨#[c]⟩, M)
      | none => none
    else none
  | _, _, _ => none
theorem sx_seq : IxR X (tO X.K ct ixD) := by
  intro value slice pins s σ H x y v u Q I rx ry h hsub
  obtain ⟨ρ, M, d, e, r, dx, dy, z, M', hf, hq⟩ := h
  unfold ixD at hf
  split at hf
  · split at hf
    · rename_i d0 hd0
      cases hf; cases dy
      cases dx with
      | tup hs hd =>
        obtain ⟨w, h1, h2⟩ := hd.at_ hd0
        exact ix_seq value slice pins s σ H _ _ v u Q I rx ry (.inr (.inl ⟨_, _, _, w, rfl, rfl, hs.sq, h1, hq ρ H .refl r _ h2⟩)) hsub
    · cases hf
  · split at hf
    · rename_i d0 hd0
      cases hf; cases dy
      cases dx with
      | pr hs hd =>
        obtain ⟨w, h1, h2⟩ := hd.at_ hd0
        exact ix_seq value slice pins s σ H _ _ v u Q I rx ry (.inr (.inl ⟨_, _, _, w, rfl, rfl, hs, h1, hq ρ H .refl r _ h2⟩)) hsub
    · cases hf
  · split at hf
    · rename_i d0 hd0
      cases hf; cases dy
      cases dx with
      | rol hs hd =>
        obtain ⟨w, h1, h2⟩ := hd.at_ hd0
        exact ix_seq value slice pins s σ H _ _ v u Q I rx ry (.inl ⟨_, _, _, w, rfl, rfl, hs.sq, h1, hq ρ H .refl r _ h2⟩) hsub
    · cases hf
  · split at hf
    · rename_i hm
      split at hf
      · rename_i d0 hd0
        cases hf; cases dy
        obtain ⟨a, vs, rfl, a1, a2, a3⟩ := r.lst hm dx
        obtain ⟨w, h1, h2⟩ := a3.at_ hd0
        exact ix_seq value slice pins s σ H _ _ v u Q I rx ry (.inl ⟨_, _, _, w, rfl, rfl, SqL.of a2, h1, hq ρ H .refl r _ h2⟩) hsub
      · cases hf
    · cases hf
  · split at hf
    · rename_i hl
      split at hf
      · rename_i c hc
        cases hf; cases dx; cases dy
        exact ix_seq value slice pins s σ H _ _ v u Q I rx ry (.inr (.inr ⟨_, _, c, rfl, rfl, hl, hc, hq ρ H .refl r _ (.str _)⟩)) hsub
      · cases hf
    · cases hf
  · cases hf
theorem se_ix (ha : SE X ct a fa) (hb : SE X ct b fb) (hs : PlainIx b := by intro _ _; rfl) : SE X ct (.Subscript a b pos) (fO ixD fa fb) :=
  PE.imp (pe_ix sx_seq ha hb hs) fun _ _ _ w => op_imp w
/-! ### slices -/
abbrev FO := En → Mem → Option (Option Int × Mem)
def tPo (K : Frg) (ct : Ct) (f : FO) : TO := fun σ H Q => ∃ ρ M env, Rl K ct ρ M H ∧ EnOk K ρ H env σ ∧ ∃ o M', f env M = some (o, M') ∧ Aft K ct ρ H M' fun _ H' => Q o H'
abbrev SPo (X : Cx) (ct : Ct) (e : Option Expr) (f : FO) : Prop := PO X e (tPo X.K ct f)
theorem PO.imp {e : Option Expr} {t t' : TO} (h : PO X e t) (k : ∀ σ H Q, t' σ H Q → t σ H Q) : PO X e t' := ⟨fun pins s σ H Q I w => h.run pins s σ H Q I (k σ H Q w)⟩
def fNoP : FO := fun _ M => some (none, M)
def fP (f : FE) : FO := fun env M => bnd (f env M) fun d M1 => match d with
  | .int i => some (some i, M1)
  | _ => none
theorem so_none : SPo X ct none fNoP := PO.imp po_none fun σ H Q ⟨ρ, M, env, r, he, o, M', hf, hq⟩ => by
  cases hf
  exact hq ρ H .refl r
theorem so_some (h : SE X ct e fa) : SPo X ct (some e) (fP fa) := PO.imp (po_some h) fun σ H Q ⟨ρ, M, env, r, he, o, M', hf, hq⟩ => by
  obtain ⟨x, M1, h1, hf⟩ := bnd_some hf
  split at hf
  · cases hf
    exact ⟨ρ, M, env, r, he, _, _, h1, fun ρ1 H1 e1 r1 v dv => by cases dv; exact ⟨_, rfl, hq ρ1 H1 e1 r1⟩⟩
  · cases hf
/-- the part from lo to hi -/
def cutD (xs : List Dv) (lo hi : Option Int) : List Dv := (xs.drop (HT.sIx xs.length 0 lo)).take (HT.sIx xs.length xs.length hi - HT.sIx xs.length 0 lo)
theorem DVs.cut {K : Frg} {ρ : List Addr} {H : Hp} {ds : List Dv} {vs : List V} (h : DVs K ρ H ds vs) (lo hi : Option Int) : DVs K ρ H (cutD ds lo hi) (cutV vs lo hi) := by
  unfold cutD cutV
  rw [h.length]
  exact (h.drop _).take _
def slD (x : Dv) (lo hi : Option Int) (M : Mem) : Rz :=
  match x with
  | .tup xs => some (.tup (cutD xs lo hi), M)
  | .rol xs => some (.loc M.length, M ++ [.lst (cutD xs lo hi)])
  | .loc n => match M[n]? with
    | some (.lst xs) => some (.loc M.length, M ++ [.lst (cutD xs lo hi)])
    | _ => none
  | .str z => if z.length ≤ sizeLine then some (.str (cutS z lo hi), M) else none
  | _ => none
def tSlz (K : Frg) (ct : Ct) : V → Option Int → Option Int → Hp → VK → Prop := fun x lo hi H Q => ∃ ρ M d, Rl K ct ρ M H ∧ DV K ρ H d x ∧ ∃ z M', slD d lo hi M = some (z, M') ∧ Aft K ct ρ H M' fun ρ' H' => ∀ v, DV K ρ' H' z v → Q v H'
/-- t[lo:hi] of a tuple, locked where it is new -/
theorem sl_tupF : SlR X (fun x lo hi H Q => ∃ a xs, x = .ref a ∧ SqT X.K H a xs ∧
    (HT.sIx xs.length 0 lo = 0 ∧ HT.sIx xs.length xs.length hi = xs.length → Q (.ref a) H) ∧ (¬ (HT.sIx xs.length 0 lo = 0 ∧ HT.sIx xs.length xs.length hi = xs.length) → ∀ p o, H p = none → o.dict = none → Q (.ref p) (upd H p (.frz o (.tup (cutV xs lo hi)))))) := by
  intro pins s σ H x v vl vu lo hi sl Q I rx hs pl pu h
  obtain ⟨a, xs, rfl, hx, q1, q2⟩ := h
  cases rx
  obtain ⟨us, r, ht, hz⟩ := I.tuple hx
  have hlen : us.toArray.size = xs.length := by rw [List.size_toArray, r.length]
  refine ⟨"tuple", _, PyProof.Rows.slot_tuple_getitem.lookup, ht.typeIs, ?_⟩
  by_cases hw : HT.sIx xs.length 0 lo = 0 ∧ HT.sIx xs.length xs.length hi = xs.length
  · exact getItem_tuple_whole ht hs pl pu (by rw [hlen]; exact hw) ⟨V.ref a, H, I, rfl, q1 hw⟩
  · refine HT.getItem_tuple_cut ht hs pl pu (by rw [hlen]; exact hw) ?_ ?_
    · rw [hlen]
      exact ⟨V.ref s.heap.objs.size, _, layT (tk := s.toks) I ((r.drop _).take _) (Nat.le_trans (cutV_length xs lo hi) hz), rfl, q2 hw _ _ (I.hok.fresh (Nat.le_refl _)) rfl⟩
    · rw [hlen]; exact hz
theorem cut_whole {xs : List Dv} {lo hi : Option Int} (h : HT.sIx xs.length 0 lo = 0 ∧ HT.sIx xs.length xs.length hi = xs.length) : cutD xs lo hi = xs := by
  unfold cutD
  rw [h.1, h.2, List.drop_zero, Nat.sub_zero, List.take_length]
theorem sl_all : SlR X (tSlz X.K ct) := by
  intro pins s σ H x v vl vu lo hi sl Q I rx hs pl pu h
  obtain ⟨ρ, M, d, r, dx, z, M', hf, hq⟩ := h
  unfold slD at hf
  split at hf
  · cases hf
    cases dx with
    | tup h1 d1 =>
      refine sl_tupF pins s σ H _ v vl vu lo hi sl Q I rx hs pl pu ⟨_, _, rfl, h1.sq, fun hw => ?_, fun _ p o hp ho => ?_⟩
      · rw [← d1.length] at hw
        exact hq ρ H .refl r _ (by rw [cut_whole hw]; exact .tup h1 d1)
      · exact hq ρ _ (Ext.fresh hp) (r.tup hp _) _ (.tup (TupD.new ho) ((d1.cut lo hi).mono (Ext.fresh hp)))
  · cases hf
    cases dx with
    | rol h1 d1 =>
      refine sl_list pins s σ H _ v vl vu lo hi sl Q I rx hs pl pu ⟨_, _, rfl, h1.sq, fun p hp => ?_⟩
      obtain ⟨r2, e2, h2⟩ := r.newL hp (d1.cut lo hi)
      exact hq _ _ e2 r2 _ (.loc h2)
  · split at hf
    · rename_i hm
      cases hf
      obtain ⟨a, vs, rfl, a1, a2, a3⟩ := r.lst hm dx
      refine sl_list pins s σ H _ v vl vu lo hi sl Q I rx hs pl pu ⟨_, _, rfl, SqL.of a2, fun p hp => ?_⟩
      obtain ⟨r2, e2, h2⟩ := r.newL hp (a3.cut lo hi)
      exact hq _ _ e2 r2 _ (.loc h2)
    · cases hf
  · split at hf
    · rename_i hz
      cases hf; cases dx
      exact sl_str pins s σ H _ v vl vu lo hi sl Q I rx hs pl pu ⟨_, rfl, hz, hq ρ H .refl r _ (.str _)⟩
    · cases hf
  · cases hf
def fSl (f : FE) (g h : FO) : FE := fun env M => bnd (f env M) fun d M1 => bnd (g env M1) fun lo M2 => bnd (h env M2) fun hi M3 => slD d lo hi M3
theorem se_slice {lo hi : Option Expr} {g h : FO} {p2 : Pos} (ha : SE X ct a fa) (hl : SPo X ct lo g) (hh : SPo X ct hi h) : SE X ct (.Subscript a (.Slice lo hi none p2) pos) (fSl fa g h) :=
  PE.imp (pe_slice sl_all ha hl hh) fun σ H Q ⟨ρ, M, env, r, he, d, M', hf, hq⟩ => by
    obtain ⟨x, M1, h1, hf⟩ := bnd_some hf
    obtain ⟨o, M2, h2, hf⟩ := bnd_some hf
    obtain ⟨o', M3, h3, hf⟩ := bnd_some hf
    exact ⟨ρ, M, env, r, he, x, M1, h1, fun ρ1 H1 e1 r1 v dv => ⟨ρ1, M1, env, r1, he.mono e1, o, M2, h2, fun ρ2 H2 e2 r2 => ⟨ρ2, M2, env, r2, (he.mono e1).mono e2, o', M3, h3, fun ρ3 H3 e3 r3 =>
      ⟨ρ3, M3, x, r3, (dv.mono e2).mono e3, d, M', hf, hq.later ((e1.trans e2).trans e3)⟩⟩⟩⟩
end
end Zl

/-! text Z5 -/
namespace Zl
open PySem L2 PySem.Spec PyProof.Rows

/-- the items of a thing that can be walked whole: tuple, list -/
def itemsD (M : Mem) : Dv → Option (List Dv)
  | .tup xs => some xs
  | .pr xs => some xs
  | .rol xs => some xs
  | .loc n => match M[n]? with
    | some (.lst xs) => some xs
    | _ => none
  | _ => none
def intsD : List Dv → Option (List Int)
  | [] => some []
  | .int i :: r => match intsD r with
    | some ns => some (i :: ns)
    | none => none
  | _ :: _ => none
def blsD : List Dv → Option (List Bool)
  | [] => some []
  | .bl b :: r => match blsD r with
    | some bs => some (b :: bs)
    | none => none
  | _ :: _ => none
section
variable {K : Frg} {ct : Ct} {ρ : List Addr} {M : Mem} {H : Hp}
theorem items_sq (r : Rl K ct ρ M H) {d : Dv} {v : V} {xs : List Dv} (h : DV K ρ H d v) (e : itemsD M d = some xs) : ∃ a vs, v = .ref a ∧ DVs K ρ H xs vs ∧ (SqL K H a vs ∨ SqT K H a vs) := by
  unfold itemsD at e
  split at e
  · cases e
    cases h with
    | tup hs hd => exact ⟨_, _, rfl, hd, .inr hs.sq⟩
  · cases e
    cases h with
    | pr hs hd => exact ⟨_, _, rfl, hd, .inr hs⟩
  · cases e
    cases h with
    | rol hs hd => exact ⟨_, _, rfl, hd, .inl hs.sq⟩
  · split at e
    · rename_i hm
      cases e
      obtain ⟨a, vs, rfl, a1, a2, a3⟩ := r.lst hm h
      exact ⟨a, vs, rfl, a3, .inl (SqL.of a2)⟩
    · cases e
  · cases e
theorem ints_of : ∀ {xs : List Dv} {vs : List V} {ns : List Int}, DVs K ρ H xs vs → intsD xs = some ns → vs = ns.map V.int
  | _, _, _, .nil, e => by cases e; rfl
  | .int i :: r, _, _, .cons h t, e => by
    unfold intsD at e
    split at e
    · rename_i ns hn
      cases e; cases h
      rw [ints_of t hn]; rfl
    · cases e
theorem bls_of : ∀ {xs : List Dv} {vs : List V} {ns : List Bool}, DVs K ρ H xs vs → blsD xs = some ns → vs = ns.map V.bl
  | _, _, _, .nil, e => by cases e; rfl
  | .bl i :: r, _, _, .cons h t, e => by
    unfold blsD at e
    split at e
    · rename_i ns hn
      cases e; cases h
      rw [bls_of t hn]; rfl
    · cases e
theorem dvs_nil {vs : List V} (h : DVs K ρ H [] vs) : vs = [] := by cases h; rfl
theorem dvs_one {d : Dv} {vs : List V} (h : DVs K ρ H [d] vs) : ∃ v, vs = [v] ∧ DV K ρ H d v := by
  cases h with
  | cons h t => cases t; exact ⟨_, rfl, h⟩
theorem dvs_two {d e : Dv} {vs : List V} (h : DVs K ρ H [d, e] vs) : ∃ v u, vs = [v, u] ∧ DV K ρ H d v ∧ DV K ρ H e u := by
  cases h with
  | cons h t =>
    obtain ⟨u, rfl, h2⟩ := dvs_one t
    exact ⟨_, u, rfl, h, h2⟩
end
def maxI : Int → List Int → Int
  | m, [] => m
  | m, x :: xs => maxI (if x > m then x else m) xs
def minI : Int → List Int → Int
  | m, [] => m
  | m, x :: xs => minI (if x < m then x else m) xs
theorem maxI_ok : ∀ (xs : List Int) (m : Int), maxI m xs ∈ m :: xs ∧ ∀ y ∈ m :: xs, y ≤ maxI m xs
  | [], m => ⟨by simp [maxI], by simp [maxI]⟩
  | x :: xs, m => by
    obtain ⟨h1, h2⟩ := maxI_ok xs (if x > m then x else m)
    have h3 := h2 _ List.mem_cons_self
    refine ⟨?_, fun y hy => ?_⟩
    · unfold maxI
      rcases List.mem_cons.mp h1 with e | e
      · rw [e]; split <;> simp
      · exact List.mem_cons_of_mem _ (List.mem_cons_of_mem _ e)
    · unfold maxI
      rcases List.mem_cons.mp hy with e | hy
      · have h4 : y ≤ (if x > y then x else y) := by split <;> omega
        subst e; omega
      · rcases List.mem_cons.mp hy with e | hy
        · have h4 : y ≤ (if y > m then y else m) := by split <;> omega
          subst e; omega
        · exact h2 _ (List.mem_cons_of_mem _ hy)
theorem minI_ok : ∀ (xs : List Int) (m : Int), minI m xs ∈ m :: xs ∧ ∀ y ∈ m :: xs, minI m xs ≤ y
  | [], m => ⟨by simp [minI], by simp [minI]⟩
  | x :: xs, m => by
    obtain ⟨h1, h2⟩ := minI_ok xs (if x < m then x else m)
    have h3 := h2 _ List.mem_cons_self
    refine ⟨?_, fun y hy => ?_⟩
    · unfold minI
      rcases List.mem_cons.mp h1 with e | e
      · rw [e]; split <;> simp
      · exact List.mem_cons_of_mem _ (List.mem_cons_of_mem _ e)
    · unfold minI
      rcases List.mem_cons.mp hy with e | hy
      · have h4 : (if x < y then x else y) ≤ y := by split <;> omega
        subst e; omega
      · rcases List.mem_cons.mp hy with e | hy
        · have h4 : (if y < m then y else m) ≤ y := by split <;> omega
          subst e; omega
        · exact h2 _ (List.mem_cons_of_mem _ hy)

section
variable {X : Cx} {ct : Ct} {e a b : Expr} {es : List Expr} {pos p : Pos} {fa fb : FE} {fr : FA}
/-! ### built-ins by values -/
def lenD : List Dv → Mem → Rz
  | [.str x], M => if x.length ≤ sizeLine then some (.int x.length, M) else none
  | [d], M => match itemsD M d with
    | some xs => some (.int xs.length, M)
    | none => none
  | _, _ => none
theorem sc_len : SC X ct (.builtin "len") lenD := by
  intro pins s σ H xs us Q I rv h
  obtain ⟨ρ, M, ds, r, dv, z, M', hf, hq⟩ := h
  unfold lenD at hf
  split at hf
  · split at hf
    · rename_i hl
      cases hf
      obtain ⟨v, rfl, d1⟩ := dvs_one dv
      cases d1
      exact call_len_str pins s σ H _ us Q I rv ⟨_, rfl, hl, hq ρ H .refl r _ (.int _)⟩
    · cases hf
  · split at hf
    · rename_i ys hy
      cases hf
      obtain ⟨v, rfl, d1⟩ := dvs_one dv
      obtain ⟨a, vs, rfl, d2, hs⟩ := items_sq r d1 hy
      refine call_len_seq pins s σ H _ us Q I rv ⟨_, _, rfl, hs, hq ρ H .refl r _ ?_⟩
      rw [d2.length]; exact .int _
    · cases hf
  · cases hf
def intD : List Dv → Mem → Rz
  | [.int i], M => some (.int i, M)
  | [.bl k], M => some (.int (if k then 1 else 0), M)
  | _, _ => none
theorem sc_int : SC X ct (.type "int") intD := by
  intro pins s σ H xs us Q I rv h
  obtain ⟨ρ, M, ds, r, dv, z, M', hf, hq⟩ := h
  unfold intD at hf
  split at hf
  · cases hf
    obtain ⟨v, rfl, d1⟩ := dvs_one dv
    cases d1
    exact call_int1 pins s σ H _ us Q I rv (.inl ⟨_, rfl, hq ρ H .refl r _ (.int _)⟩)
  · cases hf
    obtain ⟨v, rfl, d1⟩ := dvs_one dv
    cases d1
    exact call_int1 pins s σ H _ us Q I rv (.inr ⟨_, rfl, hq ρ H .refl r _ (.int _)⟩)
  · cases hf
def absD : List Dv → Mem → Rz
  | [.int i], M => some (.int (if i < 0 then -i else i), M)
  | _, _ => none
theorem sc_abs : SC X ct (.builtin "abs") absD := by
  intro pins s σ H xs us Q I rv h
  obtain ⟨ρ, M, ds, r, dv, z, M', hf, hq⟩ := h
  unfold absD at hf
  split at hf
  · cases hf
    obtain ⟨v, rfl, d1⟩ := dvs_one dv
    cases d1
    exact call_abs pins s σ H _ us Q I rv ⟨_, rfl, hq ρ H .refl r _ (.int _)⟩
  · cases hf
def maxD : List Dv → Mem → Rz
  | [.int i, .int j], M => some (.int (if j > i then j else i), M)
  | [.loc n], M => match M[n]? with
    | some (.lst xs) => match intsD xs with
      | some (m :: ms) => some (.int (maxI m ms), M)
      | _ => none
    | _ => none
  | _, _ => none
theorem sc_max (hc : X.calm = true) : SC X ct (.builtin "max") maxD := by
  intro pins s σ H xs us Q I rv h
  obtain ⟨ρ, M, ds, r, dv, z, M', hf, hq⟩ := h
  unfold maxD at hf
  split at hf
  · cases hf
    obtain ⟨v, u, rfl, d1, d2⟩ := dvs_two dv
    cases d1; cases d2
    exact call_max2 hc pins s σ H _ us Q I rv ⟨_, _, rfl, hq ρ H .refl r _ (.int _)⟩
  · split at hf
    · rename_i hm
      split at hf
      · rename_i m ms hi
        cases hf
        obtain ⟨v, rfl, d1⟩ := dvs_one dv
        obtain ⟨a, vs, rfl, a1, a2, a3⟩ := r.lst hm d1
        have e := ints_of a3 hi
        subst e
        refine cr_max hc pins s σ H _ us Q I rv ⟨_, _, rfl, SqL.of a2, by simp, fun k hk hy => ?_⟩
        obtain ⟨o1, o2⟩ := maxI_ok ms m
        have e1 := hy _ o1
        have e2 := o2 _ hk
        have e3 : k = maxI m ms := by omega
        subst e3
        exact hq ρ H .refl r _ (.int _)
      · cases hf
    · cases hf
  · cases hf
def minD : List Dv → Mem → Rz
  | [.int i, .int j], M => some (.int (if j < i then j else i), M)
  | [.loc n], M => match M[n]? with
    | some (.lst xs) => match intsD xs with
      | some (m :: ms) => some (.int (minI m ms), M)
      | _ => none
    | _ => none
  | _, _ => none
theorem sc_min (hc : X.calm = true) : SC X ct (.builtin "min") minD := by
  intro pins s σ H xs us Q I rv h
  obtain ⟨ρ, M, ds, r, dv, z, M', hf, hq⟩ := h
  unfold minD at hf
  split at hf
  · cases hf
    obtain ⟨v, u, rfl, d1, d2⟩ := dvs_two dv
    cases d1; cases d2
    exact call_min2 hc pins s σ H _ us Q I rv ⟨_, _, rfl, hq ρ H .refl r _ (.int _)⟩
  · split at hf
    · rename_i hm
      split at hf
      · rename_i m ms hi
        cases hf
        obtain ⟨v, rfl, d1⟩ := dvs_one dv
        obtain ⟨a, vs, rfl, a1, a2, a3⟩ := r.lst hm d1
        have e := ints_of a3 hi
        subst e
        refine cr_min hc pins s σ H _ us Q I rv ⟨_, _, rfl, SqL.of a2, by simp, fun k hk hy => ?_⟩
        obtain ⟨o1, o2⟩ := minI_ok ms m
        have e1 := hy _ o1
        have e2 := o2 _ hk
        have e3 : k = minI m ms := by omega
        subst e3
        exact hq ρ H .refl r _ (.int _)
      · cases hf
    · cases hf
  · cases hf
def sumD : List Dv → Mem → Rz
  | [.loc n], M => match M[n]? with
    | some (.lst xs) => match intsD xs with
      | some ns => some (.int ns.sum, M)
      | _ => none
    | _ => none
  | _, _ => none
theorem sc_sum (hc : X.calm = true) : SC X ct (.builtin "sum") sumD := by
  intro pins s σ H xs us Q I rv h
  obtain ⟨ρ, M, ds, r, dv, z, M', hf, hq⟩ := h
  unfold sumD at hf
  split at hf
  · split at hf
    · rename_i hm
      split at hf
      · rename_i ns hi
        cases hf
        obtain ⟨v, rfl, d1⟩ := dvs_one dv
        obtain ⟨a, vs, rfl, a1, a2, a3⟩ := r.lst hm d1
        have e := ints_of a3 hi
        subst e
        exact cr_sum hc pins s σ H _ us Q I rv ⟨_, _, rfl, SqL.of a2, hq ρ H .refl r _ (.int _)⟩
      · cases hf
    · cases hf
  · cases hf
def allD : List Dv → Mem → Rz
  | [.loc n], M => match M[n]? with
    | some (.lst xs) => match blsD xs with
      | some bs => some (.bl (bs.all id), M)
      | _ => none
    | _ => none
  | _, _ => none
def anyD : List Dv → Mem → Rz
  | [.loc n], M => match M[n]? with
    | some (.lst xs) => match blsD xs with
      | some bs => some (.bl (bs.any id), M)
      | _ => none
    | _ => none
  | _, _ => none
theorem sc_all (hc : X.calm = true) : SC X ct (.builtin "all") allD := by
  intro pins s σ H xs us Q I rv h
  obtain ⟨ρ, M, ds, r, dv, z, M', hf, hq⟩ := h
  unfold allD at hf
  split at hf
  · split at hf
    · rename_i hm
      split at hf
      · rename_i ns hi
        cases hf
        obtain ⟨v, rfl, d1⟩ := dvs_one dv
        obtain ⟨a, vs, rfl, a1, a2, a3⟩ := r.lst hm d1
        have e := bls_of a3 hi
        subst e
        exact cr_all hc pins s σ H _ us Q I rv ⟨_, _, rfl, SqL.of a2, hq ρ H .refl r _ (.bl _)⟩
      · cases hf
    · cases hf
  · cases hf
theorem sc_any (hc : X.calm = true) : SC X ct (.builtin "any") anyD := by
  intro pins s σ H xs us Q I rv h
  obtain ⟨ρ, M, ds, r, dv, z, M', hf, hq⟩ := h
  unfold anyD at hf
  split at hf
  · split at hf
    · rename_i hm
      split at hf
      · rename_i ns hi
        cases hf
        obtain ⟨v, rfl, d1⟩ := dvs_one dv
        obtain ⟨a, vs, rfl, a1, a2, a3⟩ := r.lst hm d1
        have e := bls_of a3 hi
        subst e
        exact cr_any hc pins s σ H _ us Q I rv ⟨_, _, rfl, SqL.of a2, hq ρ H .refl r _ (.bl _)⟩
      · cases hf
    · cases hf
  · cases hf
/-- tuple(list): locked; tuple(tuple): itself -/
theorem call_tupF : CallR X (.type "tuple") (fun xs H Q => ∃ p ys, xs = [.ref p] ∧ ((SqL X.K H p ys ∧ ∀ l o, H l = none → o.dict = none → Q (.ref l) (upd H l (.frz o (.tup ys)))) ∨ (SqT X.K H p ys ∧ Q (.ref p) H))) := by
  intro pins s σ H xs us Q I rv h
  obtain ⟨p, ys, rfl, h⟩ := h
  obtain ⟨u, rfl, rx⟩ := vals1 rv
  cases rx
  rcases h with ⟨hl, q⟩ | ⟨ht, q⟩
  · obtain ⟨ws, rw', pl, hz⟩ := I.list hl
    have hlen := rw'.length
    refine call_tuple_list pl.isList (fun h' kp => ?_) (by simp only [List.size_toArray]; omega)
    have J : Inv X pins σ H { s with heap := h' } := I.kept (t' := s.toks) kp
    exact ⟨V.ref h'.objs.size, _, layT (tk := s.toks) J rw' hz, rfl, q _ _ (J.hok.fresh (Nat.le_refl _)) rfl⟩
  · obtain ⟨ws, rw', pl, hz⟩ := I.tuple ht
    exact call_tuple_same pl ⟨V.ref p, H, I, rfl, q⟩
def tupD : List Dv → Mem → Rz
  | [.tup xs], M => some (.tup xs, M)
  | [.loc n], M => match M[n]? with
    | some (.lst xs) => some (.tup xs, M)
    | _ => none
  | _, _ => none
theorem sc_tuple : SC X ct (.type "tuple") tupD := by
  intro pins s σ H xs us Q I rv h
  obtain ⟨ρ, M, ds, r, dv, z, M', hf, hq⟩ := h
  unfold tupD at hf
  split at hf
  · cases hf
    obtain ⟨v, rfl, d1⟩ := dvs_one dv
    cases d1 with
    | tup hs hd => exact call_tupF pins s σ H _ us Q I rv ⟨_, _, rfl, .inr ⟨hs.sq, hq ρ H .refl r _ (.tup hs hd)⟩⟩
  · split at hf
    · rename_i hm
      cases hf
      obtain ⟨v, rfl, d1⟩ := dvs_one dv
      obtain ⟨a, vs, rfl, a1, a2, a3⟩ := r.lst hm d1
      exact call_tupF pins s σ H _ us Q I rv ⟨_, _, rfl, .inl ⟨SqL.of a2, fun p o hp ho => hq ρ _ (Ext.fresh hp) (r.tup hp _) _ (.tup (TupD.new ho) (a3.mono (Ext.fresh hp)))⟩⟩
    · cases hf
  · cases hf
def lstD : List Dv → Mem → Rz
  | [d], M => match itemsD M d with
    | some xs => some (.loc M.length, M ++ [.lst xs])
    | none => none
  | _, _ => none
theorem sc_list : SC X ct (.type "list") lstD := by
  intro pins s σ H xs us Q I rv h
  obtain ⟨ρ, M, ds, r, dv, z, M', hf, hq⟩ := h
  unfold lstD at hf
  split at hf
  · split at hf
    · rename_i ys hy
      cases hf
      obtain ⟨v, rfl, d1⟩ := dvs_one dv
      obtain ⟨a, vs, rfl, d2, hs⟩ := items_sq r d1 hy
      refine call_list_of pins s σ H _ us Q I rv ⟨_, _, rfl, hs, fun p hp => ?_⟩
      obtain ⟨r2, e2, h2⟩ := r.newL hp d2
      exact hq _ _ e2 r2 _ (.loc h2)
    · cases hf
  · cases hf
def divmodD : List Dv → Mem → Rz
  | [.int i, .int j], M => if 0 < j ∧ j < 1073741824 then some (.pr [.int (i / j), .int (i % j)], M) else none
  | _, _ => none
theorem sc_divmod : SC X ct (.builtin "divmod") divmodD := by
  intro pins s σ H xs us Q I rv h
  obtain ⟨ρ, M, ds, r, dv, z, M', hf, hq⟩ := h
  unfold divmodD at hf
  split at hf
  · split at hf
    · rename_i hl
      cases hf
      obtain ⟨v, u, rfl, d1, d2⟩ := dvs_two dv
      cases d1; cases d2
      exact call_divmod pins s σ H _ us Q I rv ⟨_, _, rfl, hl, fun p hp => hq ρ _ (Ext.fresh hp) (r.tup hp _) _ (.pr (SqT.of upd_same) (.cons (.int _) (.cons (.int _) .nil)))⟩
    · cases hf
  · cases hf
/-! ### isinstance of a built-in type -/
def tyName (M : Mem) : Dv → Option String
  | .non => some "NoneType"
  | .bl _ => some "bool"
  | .int _ => some "int"
  | .str _ => some "str"
  | .tup _ => some "tuple"
  | .rol _ => some "list"
  | .loc n => match M[n]? with
    | some (.lst _) => some "list"
    | some (.dct _) => some "dict"
    | _ => none
  | _ => none
def tyIs (T a : String) : Bool := a == T || (T == "int" && a == "bool")
def isiD : List Dv → Mem → Rz
  | [d, .ty T], M => if ["int", "bool", "str", "tuple", "list"].contains T then match tyName M d with
      | some a => some (.bl (tyIs T a), M)
      | none => none
    else none
  | _, _ => none
theorem kit_all : (["int", "bool", "str", "tuple", "list"].all fun T => ["NoneType", "bool", "int", "str", "tuple", "list", "dict"].all fun a => kitB a T == some (tyIs T a)) = true := by decide +kernel
theorem kit_two {T a : String} (h1 : ["int", "bool", "str", "tuple", "list"].contains T = true) (h2 : ["NoneType", "bool", "int", "str", "tuple", "list", "dict"].contains a = true) : kitB a T = some (tyIs T a) := by
  have h := kit_all
  rw [List.all_eq_true] at h
  have h3 := h T (by simpa using h1)
  rw [List.all_eq_true] at h3
  exact eq_of_beq (h3 a (by simpa using h2))
theorem tyName_ok {ρ : List Addr} {M : Mem} {H : Hp} {K : Frg} (r : Rl K ct ρ M H) {d : Dv} {v : V} {a : String} (h : DV K ρ H d v) (e : tyName M d = some a) :
    TyX K H v (.type a) ∧ ["NoneType", "bool", "int", "str", "tuple", "list", "dict"].contains a = true := by
  unfold tyName at e
  split at e
  · cases e; cases h; exact ⟨.base .non, by decide⟩
  · cases e; cases h; exact ⟨.base (.bl _), by decide⟩
  · cases e; cases h; exact ⟨.base (.int _), by decide⟩
  · cases e; cases h; exact ⟨.base (.str _), by decide⟩
  · cases e
    cases h with
    | tup hs hd =>
      refine ⟨?_, by decide⟩
      rcases hs with ⟨o, hs, _⟩ | ⟨o, its, n, h1, h2, _⟩
      · exact .fTuple hs
      · exact .kTuple h1 h2
  · cases e
    cases h with
    | rol hs hd =>
      refine ⟨?_, by decide⟩
      rcases hs with ⟨o, hs⟩ | ⟨_, o, h1, h2⟩
      · exact .base (.frz hs)
      · exact .kList h1 h2
  · split at e
    · rename_i hm
      cases e
      obtain ⟨a, vs, rfl, a1, a2, a3⟩ := r.lst hm h
      exact ⟨.base (.lst a2), by decide⟩
    · rename_i hm
      cases e
      obtain ⟨a, h1, vs, h2, h3, h4⟩ := r.ok _ _ hm
      cases h with
      | loc h => rw [h] at h1; cases h1; exact ⟨.base (.dK h2), by decide⟩
    · cases e
  · cases e
theorem sc_isi : SC X ct (.builtin "isinstance") isiD := by
  intro pins s σ H xs us Q I rv h
  obtain ⟨ρ, M, ds, r, dv, z, M', hf, hq⟩ := h
  unfold isiD at hf
  split at hf
  · split at hf
    · rename_i hT
      split at hf
      · rename_i a ha
        cases hf
        obtain ⟨v, u, rfl, d1, d2⟩ := dvs_two dv
        cases d2
        obtain ⟨t1, t2⟩ := tyName_ok r d1 ha
        exact call_isi pins s σ H _ us Q I rv ⟨v, _, _, _, _, rfl, .ty _, t1, kit_ty (kit_two hT t2), hq ρ H .refl r _ (.bl _)⟩
      · cases hf
    · cases hf
  · cases hf
/-- a built-in class by its name, as a value -/
theorem se_ty {x : Str} {T : String} (hg : Gl X x) (hm : X.mg x = none) (hv : bootBuiltins x = some (.type T)) (hn : x ≠ "__name__" := by decide) (hd : (x == ("__debug__" : Str)) = false := by decide) : SE X ct (.Name x pos) (fK (.ty T)) :=
  PE.imp (pe_bltn (v := .ty T) hg hm hv rfl hn hd) fun _ _ _ h => tE.const (fun _ _ => .ty T) h
/-! ### repr -/
def reprD : List Dv → Mem → Rz
  | [d], M => match d with
    | .int i => if i.natAbs.log2 < 1920 then some (.str (toString i), M) else none
    | .tup _ | .rol _ | .loc _ => match rd M deep d with
      | some p => if p.showable = true ∧ p.hasDict = false ∧ p.depth ≤ 60 ∧ p.shown.length ≤ sizeLine then some (.str p.shown, M) else none
      | none => none
    | _ => none
  | _, _ => none
theorem sc_repr (hg : X.A.guards = some []) (hu : X.A.units + 64 < cLine) : SC X ct (.builtin "repr") reprD := by
  intro pins s σ H xs us Q I rv h
  obtain ⟨ρ, M, ds, r, dv, z, M', hf, hq⟩ := h
  have deepen : ∀ {d : Dv} {v : V} {a : Addr}, DV X.K ρ H d v → v = .ref a → xs = [v] → (match rd M deep d with
      | some p => if p.showable = true ∧ p.hasDict = false ∧ p.depth ≤ 60 ∧ p.shown.length ≤ sizeLine then some (Dv.str p.shown, M) else none
      | none => none) = some (z, M') → wpAny (model X.prog X.w) X.A (call (.builtin "repr") us) (EP X pins σ Q) X.xe s := by
    intro d v a hd ev ex hf
    subst ex; subst ev
    split at hf
    · rename_i p hp
      split at hf
      · rename_i hs
        cases hf
        obtain ⟨u, rfl, ru⟩ := vals1 rv
        cases ru
        obtain ⟨as, hr⟩ := Dp.reads I _ _ _ (rd_dp r _ hd hp) rfl
        refine repr_of_reads' hr hs.1 (PyData.noDict_hsm hs.2.1) hg (by omega) (fun _ _ q => q) (fun h' t tk hk => ?_) hs.2.2.2
        exact ⟨V.str p.shown, H, I.kept (t' := tk) hk, ⟨_, rfl⟩, hq ρ H .refl r _ (.str _)⟩
      · cases hf
    · cases hf
  unfold reprD at hf
  split at hf
  · rename_i d _
    obtain ⟨v, ex, d1⟩ := dvs_one dv
    split at hf
    · split at hf
      · rename_i hl
        cases hf; cases d1; subst ex
        exact SkE.call_repr_int pins s σ H _ us Q I rv ⟨_, rfl, hl, hq ρ H .refl r _ (.str _)⟩
      · cases hf
    · have d2 := d1
      cases d1
      exact deepen d2 rfl ex hf
    · have d2 := d1
      cases d1
      exact deepen d2 rfl ex hf
    · have d2 := d1
      cases d1
      exact deepen d2 rfl ex hf
    · cases hf
  · cases hf
end
end Zl

/-! text Z6 -/
namespace Zl
open PySem L2 PySem.Spec PyProof.Rows

abbrev FM := Dv → List Dv → Mem → Rz
def tMt (K : Frg) (ct : Ct) (h : FM) : V → List V → Hp → VK → Prop := fun x xs H Q => ∃ ρ M d ds, Rl K ct ρ M H ∧ DV K ρ H d x ∧ DVs K ρ H ds xs ∧ ∃ z M', h d ds M = some (z, M') ∧ Aft K ct ρ H M' fun ρ' H' => ∀ v, DV K ρ' H' z v → Q v H'
abbrev SM (X : Cx) (ct : Ct) (id : String) (h : FM) : Prop := MtR X id (tMt X.K ct h)
/-- of which built-in type the receiver is -/
def isTy (T : String) (d : Dv) (M : Mem) : Bool :=
  match d with
  | .tup _ => T == "tuple"
  | .rol _ => T == "list"
  | .str _ => T == "str"
  | .loc n => match M[n]? with
    | some (.lst _) => T == "list"
    | _ => false
  | _ => false
section
variable {X : Cx} {ct : Ct} {e o : Expr} {es : List Expr} {apos cpos : Pos} {fo : FE} {fr : FA} {h : FM} {T id : String} {name : Str}
theorem isTy_ok {pins : List (Addr × Obj)} {σ : L2.St} {H : Hp} {s : Shared} {ρ : List Addr} {M : Mem} {d : Dv} {x : V} {v : Value} (I : Inv X pins σ H s) (r : Rl X.K ct ρ M H) (dx : DV X.K ρ H d x) (rx : RelV x v) (ht : isTy T d M = true) :
    s.TypeIs v T ∧ ∀ a, v = .ref a → ∃ ob, s.heap.get? a = some ob ∧ ob.dict = none := by
  unfold isTy at ht
  split at ht
  · have e : T = "tuple" := by simpa using ht
    subst e
    cases dx with
    | tup hs hd =>
      cases rx
      rcases hs with ⟨o, h1, h2⟩ | ⟨o, its, n, h1, h2, h3, h4⟩
      · obtain ⟨g, _, us, _, ob, g2, g3, _⟩ := I.hok _ _ h1
        rw [g] at g2; cases g2
        exact ⟨⟨o, g, g3⟩, fun a e => by cases e; exact ⟨o, g, h2⟩⟩
      · exact ⟨⟨o, I.kIn _ _ h1, h2⟩, fun a e => by cases e; exact ⟨o, I.kIn _ _ h1, h3⟩⟩
  · have e : T = "list" := by simpa using ht
    subst e
    cases dx with
    | rol hs hd => exact tyV_is I rx (.inl ⟨rfl, _, hs.sq⟩)
  · have e : T = "str" := by simpa using ht
    subst e
    cases dx
    exact tyV_is I rx (rfl : tyV X.K "str" (V.str _) H)
  · split at ht
    · rename_i hm
      have e : T = "list" := by simpa using ht
      subst e
      obtain ⟨a, vs, rfl, a1, a2, a3⟩ := r.lst hm dx
      exact tyV_is I rx (.inl ⟨rfl, _, SqL.of a2⟩)
    · exact absurd ht (by decide)
  · exact absurd ht (by decide)
/-- o.m(e, ..) of a built-in type -/
def fM (T : String) (h : FM) (fo : FE) (fr : FA) : FE := fun env M => bnd (fo env M) fun d M1 => if isTy T d M1 then bnd (fr env M1) fun ds M2 => h d ds M2 else none
theorem se_bm (pa : PlainAttrs T) (slot : Slot T name id) (hty : typeOf (.builtin id) = pure (.type "method_descriptor")) (hm : SM X ct id h) (ho : SE X ct o fo) (ha : SA X ct (e :: es) fr)
    (hbase : attributeBase o name X.env (eval o X.env) = eval o X.env := by rfl)
    (hfew : ((backTo cpos (starEach (e :: es) X.env)).all (fun x => !x.1) && (backToKw cpos (keywordEach [] X.env)).all (fun x => x.1.isSome)
      && decide ((e :: es).length + ([] : List Keyword).length + (if ([] : List Keyword).isEmpty then 0 else 1) < 30)) = true := by rfl)
    (hline : (apos.endLine == cpos.line) = true := by rfl)
    (hs : starEach (e :: es) X.env = (false, eval e X.env) :: starEach es X.env := by rfl)
    (hplain : (backTo cpos (starEach es X.env)).any (·.1) = false := by rfl) :
    SE X ct (.Call (.Attribute o name apos) (e :: es) [] cpos) (fM T h fo fr) := by
  refine ⟨fun pins s σ H Q I w => ?_⟩
  obtain ⟨ρ, M, env, r, he, d, M', hf, hq⟩ := w
  obtain ⟨x, M1, h1, hf⟩ := bnd_some hf
  split at hf
  · rename_i ht
    obtain ⟨ys, M2, h2, hf⟩ := bnd_some hf
    refine wpAny_Call_method_late hbase hfew hline rfl (thn (ho.run pins s σ H (fun v H1 => ∃ ρ1, Ext X.K ρ H ρ1 H1 ∧ Rl X.K ct ρ1 M1 H1 ∧ DV X.K ρ1 H1 x v) I ⟨ρ, M, env, r, he, x, M1, h1, fun ρ1 H1 e1 r1 v dv => ⟨ρ1, e1, r1, dv⟩⟩) fun v s1 hv => ?_)
    obtain ⟨y, H1, I1, ry, ρ1, e1, r1, dy⟩ := hv
    obtain ⟨t1, t2⟩ := isTy_ok I1 r1 dy ry ht
    refine ⟨T, id, pa, slot, hty, t1, t2, ?_⟩
    have hA := ha.run cpos pins s1 σ H1 (fun vs H2 => ∃ ρ2, Ext X.K ρ1 H1 ρ2 H2 ∧ Rl X.K ct ρ2 M2 H2 ∧ DVs X.K ρ2 H2 ys vs) I1 ⟨ρ1, M1, env, r1, he.mono e1, ys, M2, h2, fun ρ2 H2 e2 r2 vs dvs => ⟨ρ2, e2, r2, dvs⟩⟩
    rw [hs] at hA ⊢
    refine Calls.callWith_builtin (by show (false || (backTo cpos (starEach es X.env)).any fun z => z.1) = false; rw [hplain]; rfl) (Calls.evalArgs_plain (thn hA fun us s2 hus => ?_))
    obtain ⟨vs, H2, I2, rvs, ρ2, e2, r2, dvs⟩ := hus
    exact hm pins s2 σ H2 y vs v us Q I2 ry rvs ⟨ρ2, M2, x, ys, r2, dy.mono e2, dvs, d, M', hf, hq.later (e1.trans e2)⟩
  · cases hf
theorem se_bm0 (pa : PlainAttrs T) (slot : Slot T name id) (hty : typeOf (.builtin id) = pure (.type "method_descriptor")) (hm : SM X ct id h) (ho : SE X ct o fo)
    (hbase : attributeBase o name X.env (eval o X.env) = eval o X.env := by rfl) (hline : (apos.endLine == cpos.line) = true := by rfl) :
    SE X ct (.Call (.Attribute o name apos) [] [] cpos) (fM T h fo fNil) := by
  refine ⟨fun pins s σ H Q I w => ?_⟩
  obtain ⟨ρ, M, env, r, he, d, M', hf, hq⟩ := w
  obtain ⟨x, M1, h1, hf⟩ := bnd_some hf
  split at hf
  · rename_i ht
    obtain ⟨ys, M2, h2, hf⟩ := bnd_some hf
    cases h2
    refine wpAny_Call_method0_late hbase hline (thn (ho.run pins s σ H (fun v H1 => ∃ ρ1, Ext X.K ρ H ρ1 H1 ∧ Rl X.K ct ρ1 _ H1 ∧ DV X.K ρ1 H1 x v) I ⟨ρ, M, env, r, he, x, _, h1, fun ρ1 H1 e1 r1 v dv => ⟨ρ1, e1, r1, dv⟩⟩) fun v s1 hv => ?_)
    obtain ⟨y, H1, I1, ry, ρ1, e1, r1, dy⟩ := hv
    obtain ⟨t1, t2⟩ := isTy_ok I1 r1 dy ry ht
    refine ⟨T, id, pa, slot, hty, t1, t2, ?_⟩
    refine Calls.callWith_builtin rfl (PySem.evalArgs_none ?_)
    exact hm pins s1 σ H1 y [] v [] Q I1 ry .nil ⟨ρ1, _, x, [], r1, dy, .nil, d, M', hf, hq.later e1⟩
  · cases hf
/-! ### lists -/
def appendD : FM
  | .loc n, [x], M => match M[n]? with
    | some (.lst xs) => if xs.length < sizeLine then some (.non, M.set n (.lst (xs ++ [x]))) else none
    | _ => none
  | _, _, _ => none
theorem sm_append : SM X ct "list.append" appendD := by
  intro pins s σ H x xs v us Q I rx rxs w
  obtain ⟨ρ, M, d, ds, r, dx, dxs, z, M', hf, hq⟩ := w
  unfold appendD at hf
  split at hf
  · split at hf
    · rename_i hm
      split at hf
      · rename_i hl
        cases hf
        obtain ⟨a, vs, rfl, a1, a2, a3⟩ := r.lst hm dx
        obtain ⟨y, rfl, dy⟩ := dvs_one dxs
        obtain ⟨r2, e2⟩ := r.putL a1 (a3.append (.cons dy .nil))
        exact mt_append pins s σ H _ _ v us Q I rx rxs ⟨a, vs, y, rfl, rfl, a2, by rw [← a3.length]; exact hl, hq ρ _ e2 r2 _ .non⟩
      · cases hf
    · cases hf
  · cases hf
def extendD : FM
  | .loc n, [.loc m], M => match M[n]?, M[m]? with
    | some (.lst xs), some (.lst ys) => if xs.length + ys.length ≤ sizeLine then some (.non, M.set n (.lst (xs ++ ys))) else none
    | _, _ => none
  | _, _, _ => none
theorem sm_extend : SM X ct "list.extend" extendD := by
  intro pins s σ H x xs v us Q I rx rxs w
  obtain ⟨ρ, M, d, ds, r, dx, dxs, z, M', hf, hq⟩ := w
  unfold extendD at hf
  split at hf
  · split at hf
    · rename_i hm hm2
      split at hf
      · rename_i hl
        cases hf
        obtain ⟨a, vs, rfl, a1, a2, a3⟩ := r.lst hm dx
        obtain ⟨y, rfl, dy⟩ := dvs_one dxs
        obtain ⟨b, ws, rfl, b1, b2, b3⟩ := r.lst hm2 dy
        obtain ⟨r2, e2⟩ := r.putL a1 (a3.append b3)
        exact mt_extend pins s σ H _ _ v us Q I rx rxs ⟨a, b, vs, ws, rfl, rfl, a2, b2, by rw [← a3.length, ← b3.length]; exact hl, hq ρ _ e2 r2 _ .non⟩
      · cases hf
    · cases hf
  · cases hf
/-- pop(): the last one; pop(i) -/
def popD : FM
  | .loc n, [], M => match M[n]? with
    | some (.lst xs) => match xs[xs.length - 1]? with
      | some d => some (d, M.set n (.lst xs.dropLast))
      | none => none
    | _ => none
  | .loc n, [.int i], M => match M[n]? with
    | some (.lst xs) => if -(2 ^ 63) ≤ i ∧ i < 2 ^ 63 then match seqIndex? i xs.length with
        | some k => match xs[k]? with
          | some d => some (d, M.set n (.lst (xs.eraseIdx k)))
          | none => none
        | none => none
      else none
    | _ => none
  | _, _, _ => none
theorem DVs.dropLast {K : Frg} {ρ : List Addr} {H : Hp} {ds : List Dv} {vs : List V} (h : DVs K ρ H ds vs) : DVs K ρ H ds.dropLast vs.dropLast := by
  rw [List.dropLast_eq_take, List.dropLast_eq_take, h.length]
  exact h.take _
theorem DVs.eraseIdx {K : Frg} {ρ : List Addr} {H : Hp} : ∀ {ds : List Dv} {vs : List V} (i : Nat), DVs K ρ H ds vs → DVs K ρ H (ds.eraseIdx i) (vs.eraseIdx i)
  | _, _, _, .nil => .nil
  | _, _, 0, .cons _ t => t
  | _, _, i + 1, .cons r t => .cons r (DVs.eraseIdx i t)
theorem sm_pop : SM X ct "list.pop" popD := by
  intro pins s σ H x xs v us Q I rx rxs w
  obtain ⟨ρ, M, d, ds, r, dx, dxs, z, M', hf, hq⟩ := w
  unfold popD at hf
  split at hf
  · split at hf
    · rename_i hm
      split at hf
      · rename_i d0 hd
        cases hf
        obtain ⟨a, vs, rfl, a1, a2, a3⟩ := r.lst hm dx
        have := dvs_nil dxs; subst this
        obtain ⟨r2, e2⟩ := r.putL a1 a3.dropLast
        obtain ⟨w, h1, h2⟩ := a3.get hd
        rw [a3.length] at h1
        exact mt_pop pins s σ H _ _ v us Q I rx rxs ⟨a, vs, w, rfl, rfl, a2, h1, hq ρ _ e2 r2 _ (h2.mono e2)⟩
      · cases hf
    · cases hf
  · split at hf
    · rename_i hm
      split at hf
      · rename_i hb
        split at hf
        · rename_i k hk
          split at hf
          · rename_i d0 hd
            cases hf
            obtain ⟨a, vs, rfl, a1, a2, a3⟩ := r.lst hm dx
            obtain ⟨y, rfl, dy⟩ := dvs_one dxs
            cases dy
            obtain ⟨r2, e2⟩ := r.putL a1 (a3.eraseIdx k)
            obtain ⟨w, h1, h2⟩ := a3.get hd
            exact mt_popAt pins s σ H _ _ v us Q I rx rxs ⟨a, vs, _, k, w, rfl, rfl, a2, hb.1, hb.2, by rw [← a3.length]; exact hk, h1, hq ρ _ e2 r2 _ (h2.mono e2)⟩
          · cases hf
        · cases hf
      · cases hf
    · cases hf
  · cases hf
/-- index: the first equal one; flat values, or data of any depth in a list -/
def indexD : FM
  | .loc n, [x], M => match M[n]? with
    | some (.lst ys) => if flatD x && ys.all flatD then match idxB (fun y => eqF y x) ys with
        | some j => some (.int (j : Nat), M)
        | none => none
      else match rd M deep x, rdL (rd M deep) ys with
      | some p, some ps => if SeqAt.shaped p = true ∧ SeqAt.shaped (.list ps) = true then match ps.findIdx? fun z => PyData.eqv z p with
          | some j => some (.int (j : Nat), M)
          | none => none
        else none
      | _, _ => none
    | _ => none
  | _, _, _ => none
theorem sm_index (hu : X.A.units + 65 < cLine) : SM X ct "list.index" indexD := by
  intro pins s σ H x xs v us Q I rx rxs w
  obtain ⟨ρ, M, d, ds, r, dx, dxs, z, M', hf, hq⟩ := w
  unfold indexD at hf
  split at hf
  · split at hf
    · rename_i ys hm
      obtain ⟨a, vs, rfl, a1, a2, a3⟩ := r.lst hm dx
      obtain ⟨y, rfl, dy⟩ := dvs_one dxs
      split at hf
      · rename_i hl
        rw [Bool.and_eq_true] at hl
        split at hf
        · rename_i j hj
          cases hf
          obtain ⟨⟨w, h1, h2⟩, h3⟩ := idxB_some hj
          obtain ⟨u, h4, h5⟩ := a3.get h1
          have fl : ∀ {m : Nat} {c : Dv}, ys[m]? = some c → flatD c = true := fun {m c} hc => List.all_eq_true.mp hl.2 c (List.mem_of_getElem? hc)
          refine mt_index pins s σ H _ _ v us Q I rx rxs ⟨a, vs, y, j, u, rfl, rfl, SqL.of a2, by rw [flat_of dy]; exact hl.1, by rw [flats_of a3]; exact hl.2, h4, by rw [eq_of h5 dy (fl h1) hl.1]; exact h2, fun m w' hm' hw' => ?_, hq ρ H .refl r _ (.int _)⟩
          obtain ⟨c, c1, c2⟩ := a3.back hw'
          rw [eq_of c2 dy (fl c1) hl.1]
          exact h3 m c hm' c1
        · cases hf
      · split at hf
        · rename_i p ps hp hps
          split at hf
          · rename_i hs
            split at hf
            · rename_i j hj
              cases hf
              obtain ⟨h1, h2, h3⟩ := List.findIdx?_eq_some_iff_getElem.mp hj
              refine mt_indexD hu pins s σ H _ _ v us Q I rx rxs ⟨a, y, p, ps, j, ps[j], rfl, rfl, .lst (SqL.of a2) (rdL_dp (fun d v p h1 h2 => rd_dp r _ h1 h2) a3 hps), rd_dp r _ dy hp, hs.2, hs.1, List.getElem?_eq_getElem h1, h2, fun m w' hm' hw' => ?_, hq ρ H .refl r _ (.int _)⟩
              obtain ⟨g1, g2⟩ := List.getElem?_eq_some_iff.mp hw'
              subst g2
              have := h3 m hm'
              simpa using this
            · cases hf
          · cases hf
        · cases hf
    · cases hf
  · cases hf
/-! ### tuples: count, index of flat values -/
def tcountD : FM
  | .tup ys, [x], M => if flatD x && ys.all flatD then some (.int (ys.countP fun y => eqF y x : Nat), M) else none
  | _, _, _ => none
theorem count_eqU {K : Frg} {ρ : List Addr} {H : Hp} {x : Dv} {w : V} (hx : DV K ρ H x w) (fx : flatD x = true) : ∀ {ys : List Dv} {vs : List V} {us : List Value}, DVs K ρ H ys vs → Vals vs us → ys.all flatD = true → us.countP (eqU w) = ys.countP fun y => eqF y x
  | _, _, _, .nil, .nil, _ => rfl
  | _, _, _, .cons h t, .cons r rt, f => by
    rw [List.all_cons, Bool.and_eq_true] at f
    have e : eqU w _ = eqF _ x := (eqU_of r (by rw [flat_of h]; exact f.1)).trans (eq_of h hx f.1 fx)
    rw [List.countP_cons, List.countP_cons, count_eqU hx fx t rt f.2, e]
theorem sm_tcount : SM X ct "tuple.count" tcountD := by
  intro pins s σ H x xs v us Q I rx rxs w
  obtain ⟨ρ, M, d, ds, r, dx, dxs, z, M', hf, hq⟩ := w
  unfold tcountD at hf
  split at hf
  · split at hf
    · rename_i hl
      rw [Bool.and_eq_true] at hl
      cases hf
      obtain ⟨y, rfl, dy⟩ := dvs_one dxs
      obtain ⟨u, rfl, ru⟩ := vals1 rxs
      cases dx with
      | tup hs hd =>
        cases rx
        obtain ⟨ws, rw', ⟨⟨cls, dd, data, sl⟩, ho, hc, n, hd'⟩, hz⟩ := I.tuple hs.sq
        simp only at hc hd'
        subst hc hd'
        refine call_meets PySem.F.slot_tuple_count ⟨_, ho, rfl⟩ PySem.F.entry_tuple_count (PySem.F.args_tuple_count_2 _ _)
          (SeqAt.tuple_countAt _ ws.toArray n dd sl u (eqU y)) ⟨ho, fun c hc => mem_eqAt ru (by rw [flat_of dy]; exact hl.1) rw' (by rw [flats_of hd]; exact hl.2) c (by simpa using hc), ?_⟩
        refine ⟨V.int (ws.countP (eqU y) : Nat), H, I.tok _, ⟨s.toks, rfl⟩, ?_⟩
        rw [count_eqU dy hl.1 hd rw' hl.2]
        exact hq ρ H .refl r _ (.int _)
    · cases hf
  · cases hf
def tindexD : FM
  | .tup ys, [x], M => if flatD x && ys.all flatD then match idxB (fun y => eqF y x) ys with
      | some j => some (.int (j : Nat), M)
      | none => none
    else none
  | _, _, _ => none
theorem sm_tindex : SM X ct "tuple.index" tindexD := by
  intro pins s σ H x xs v us Q I rx rxs w
  obtain ⟨ρ, M, d, ds, r, dx, dxs, z, M', hf, hq⟩ := w
  unfold tindexD at hf
  split at hf
  · rename_i _ ys _
    split at hf
    · rename_i hl
      rw [Bool.and_eq_true] at hl
      split at hf
      · rename_i j hj
        cases hf
        obtain ⟨y, rfl, dy⟩ := dvs_one dxs
        obtain ⟨u, rfl, ru⟩ := vals1 rxs
        obtain ⟨⟨w, h1, h2⟩, h3⟩ := idxB_some hj
        have fl : ∀ {m : Nat} {c : Dv}, ys[m]? = some c → flatD c = true := fun {m c} hc => List.all_eq_true.mp hl.2 c (List.mem_of_getElem? hc)
        cases dx with
        | tup hs hd =>
          cases rx
          obtain ⟨ws, rw', ⟨⟨cls, dd, data, sl⟩, ho, hc, n, hd'⟩, hz⟩ := I.tuple hs.sq
          simp only at hc hd'
          subst hc hd'
          have at_ : ∀ {m : Nat} (hm : m < ws.toArray.size), ∃ c, ys[m]? = some c ∧ eqU y ws.toArray[m] = eqF c _ := fun {m} hm => by
            have hm1 : m < ws.length := by simpa using hm
            have hm2 : m < ys.length := by rw [hd.length, rw'.length]; exact hm1
            have e1 : ys[m]? = some ys[m] := List.getElem?_eq_getElem hm2
            obtain ⟨b, b1, b2⟩ := hd.get e1
            obtain ⟨c, c1, c2⟩ := rw'.get b1
            refine ⟨ys[m], e1, ?_⟩
            have e2 : ws.toArray[m] = c := by simpa using (List.getElem?_eq_some_iff.mp c1).2
            rw [e2]
            exact (eqU_of c2 (by rw [flat_of b2]; exact fl e1)).trans (eq_of b2 dy (fl e1) hl.1)
          have hj1 : j < ws.toArray.size := by
            have := (List.getElem?_eq_some_iff.mp h1).1
            rw [List.size_toArray, ← rw'.length, ← hd.length]; exact this
          refine call_meets PySem.F.slot_tuple_index ⟨_, ho, rfl⟩ PySem.F.entry_tuple_index (PySem.F.args_tuple_index_2 _ _)
            (TI.tuple_indexAt _ ws.toArray n dd sl u (eqU y) j hj1 ?_ ?_) ⟨ho, fun c hc => mem_eqAt ru (by rw [flat_of dy]; exact hl.1) rw' (by rw [flats_of hd]; exact hl.2) c (by simpa using hc), ?_⟩
          · obtain ⟨c, c1, c2⟩ := at_ hj1
            rw [h1] at c1; cases c1
            rw [c2]; exact h2
          · intro m hm hmj
            obtain ⟨c, c1, c2⟩ := at_ hm
            rw [c2]
            exact h3 m c hmj c1
          · exact ⟨V.int (j : Nat), H, I.tok _, ⟨_, rfl⟩, hq ρ H .refl r _ (.int _)⟩
      · cases hf
    · cases hf
  · cases hf
end
end Zl

/-! text Z7 -/
namespace Zl
open PySem L2 PySem.Spec PyProof.Rows

/-! ## Targets -/
/-- equal but for the slots ws -/
def OutEq (ws : List Nat) (σ σ' : L2.St) : Prop := σ'.length = σ.length ∧ ∀ i, i ∉ ws → σ'[i]? = σ[i]?
theorem OutEq.refl {ws : List Nat} {σ : L2.St} : OutEq ws σ σ := ⟨rfl, fun _ _ => rfl⟩
theorem OutEq.set {ws : List Nat} {σ : L2.St} {i : Nat} {v : Option V} (h : i ∈ ws) : OutEq ws σ (σ.set i v) := ⟨by simp, fun j hj => List.getElem?_set_ne fun e => hj (by rw [← e]; exact h)⟩
theorem OutEq.trans {ws : List Nat} {σ σ1 σ2 : L2.St} (a : OutEq ws σ σ1) (b : OutEq ws σ1 σ2) : OutEq ws σ σ2 := ⟨b.1.trans a.1, fun i hi => (b.2 i hi).trans (a.2 i hi)⟩
theorem OutEq.mono {ws us : List Nat} {σ σ' : L2.St} (a : OutEq ws σ σ') (h : ∀ i ∈ ws, i ∈ us) : OutEq us σ σ' := ⟨a.1, fun i hi => a.2 i fun z => hi (h i z)⟩

abbrev FG := Dv → En → Mem → Option (En × Mem)
abbrev FGs := List Dv → En → Mem → Option (En × Mem)
def tG (K : Frg) (ct : Ct) (ws : List Nat) (f : FG) : TG := fun v σ H Q => ∃ ρ M env d, Rl K ct ρ M H ∧ EnOk K ρ H env σ ∧ DV K ρ H d v ∧ ∃ env' M', f d env M = some (env', M') ∧ Aft K ct ρ H M' fun ρ' H' => ∀ σ', EnOk K ρ' H' env' σ' → OutEq ws σ σ' → Q σ' H'
def tGs (K : Frg) (ct : Ct) (ws : List Nat) (f : FGs) : TGs := fun vs σ H Q => ∃ ρ M env ds, Rl K ct ρ M H ∧ EnOk K ρ H env σ ∧ DVs K ρ H ds vs ∧ ∃ env' M', f ds env M = some (env', M') ∧ Aft K ct ρ H M' fun ρ' H' => ∀ σ', EnOk K ρ' H' env' σ' → OutEq ws σ σ' → Q σ' H'
abbrev SG (X : Cx) (ct : Ct) (ws : List Nat) (e : Expr) (f : FG) : Prop := PG X e (tG X.K ct ws f)
abbrev SGs (X : Cx) (ct : Ct) (ws : List Nat) (es : List Expr) (f : FGs) : Prop := PGs X es (tGs X.K ct ws f)
section
variable {X : Cx} {ct : Ct} {ws : List Nat} {e o i' : Expr} {es : List Expr} {pos : Pos} {f : FG} {g : FGs} {fo fi fa : FE}
theorem PG.imp {t t' : TG} (h : PG X e t) (k : ∀ v σ H Q, t' v σ H Q → t v σ H Q) : PG X e t' := ⟨fun pins s σ H v u Q I r w => h.run pins s σ H v u Q I r (k v σ H Q w)⟩
theorem PGs.imp {t t' : TGs} (h : PGs X es t) (k : ∀ v σ H Q, t' v σ H Q → t v σ H Q) : PGs X es t' := ⟨fun pins s σ H v u Q I r w => h.run pins s σ H v u Q I r (k v σ H Q w)⟩
def gN (i : Nat) : FG := fun d env M => some (env.set i (some d), M)
theorem sg_name {i : Nat} {x : Str} (hN : X.N.Nodup) (hi : X.N[i]? = some x) (hx : Loc X.env.scope x) (hw : i ∈ ws := by simp) (hf : X.fn x = true ∨ X.env.scope.names.lookup x = some .local := by first | exact .inl rfl | exact .inr rfl | assumption) : SG X ct ws (.Name x pos) (gN i) :=
  PG.imp (pg_name hN hi hx hf) fun v σ H Q ⟨ρ, M, env, d, r, he, dv, env', M', hf, hq⟩ => by
    cases hf
    exact hq ρ H .refl r _ (he.set i dv) (.set hw)
def gsNil : FGs := fun ds env M => match ds with
  | [] => some (env, M)
  | _ => none
def gsCons (f : FG) (g : FGs) : FGs := fun ds env M => match ds with
  | d :: r => bnd (f d env M) fun e1 M1 => g r e1 M1
  | [] => none
theorem sgs_nil : SGs X ct ws [] gsNil := PGs.imp pgs_nil fun v σ H Q ⟨ρ, M, env, ds, r, he, dv, env', M', hf, hq⟩ => by
  unfold gsNil at hf
  split at hf
  · cases hf
    exact ⟨dvs_nil dv, hq ρ H .refl r σ he .refl⟩
  · cases hf
theorem sgs_cons (h1 : SG X ct ws e f) (h2 : SGs X ct ws es g) (hs : (assignEach (e :: es) X.env).map (·.2) = assign e X.env :: (assignEach es X.env).map (·.2) := by rfl) : SGs X ct ws (e :: es) (gsCons f g) :=
  PGs.imp (pgs_cons h1 h2 hs) fun vs σ H Q ⟨ρ, M, env, ds, r, he, dv, env', M', hf, hq⟩ => by
    unfold gsCons at hf
    split at hf
    · obtain ⟨e1, M1, g1, hf⟩ := bnd_some hf
      cases dv with
      | cons d1 dr =>
        exact ⟨_, _, rfl, ρ, M, env, _, r, he, d1, e1, M1, g1, fun ρ1 H1 x1 r1 σ1 en1 oe1 => ⟨ρ1, M1, e1, _, r1, en1, dr.mono x1, env', M', hf, fun ρ2 H2 x2 r2 σ2 en2 oe2 => hq ρ2 H2 (x1.trans x2) r2 σ2 en2 (oe1.trans oe2)⟩⟩
    · cases hf
/-- (a, b, ..) = a tuple -/
def gT (n : Nat) (g : FGs) : FG := fun d env M => match d with
  | .tup xs => if xs.length = n then g xs env M else none
  | .pr xs => if xs.length = n then g xs env M else none
  | _ => none
theorem sg_tup {k n : Nat} (hc : X.calm = true) (h : SGs X ct ws es g) (hn : (assignEach es X.env).length = n := by rfl) (hst : (assignEach es X.env).findIdx? (·.1) = none := by rfl) : SG X ct ws (.Tuple es k pos) (gT n g) :=
  PG.imp (pg_tup hc h hn hst) fun v σ H Q ⟨ρ, M, env, d, r, he, dv, env', M', hf, hq⟩ => by
    unfold gT at hf
    split at hf
    · split at hf
      · rename_i hl
        cases dv with
        | tup hs hd => exact ⟨_, _, rfl, hs.sq, hd.length ▸ hl, ρ, M, env, _, r, he, hd, env', M', hf, hq⟩
      · cases hf
    · split at hf
      · rename_i hl
        cases dv with
        | pr hs hd => exact ⟨_, _, rfl, hs, hd.length ▸ hl, ρ, M, env, _, r, he, hd, env', M', hf, hq⟩
      · cases hf
    · cases hf
/-- (a, b, ..) = a list -/
def gL (n : Nat) (g : FGs) : FG := fun d env M => match d with
  | .loc m => match M[m]? with
    | some (.lst xs) => if xs.length = n then g xs env M else none
    | _ => none
  | _ => none
theorem sg_unl {k n : Nat} (hc : X.calm = true) (h : SGs X ct ws es g) (hn : (assignEach es X.env).length = n := by rfl) (hst : (assignEach es X.env).findIdx? (·.1) = none := by rfl) : SG X ct ws (.Tuple es k pos) (gL n g) :=
  PG.imp (pg_unl hc h hn hst) fun v σ H Q ⟨ρ, M, env, d, r, he, dv, env', M', hf, hq⟩ => by
    unfold gL at hf
    split at hf
    · split at hf
      · rename_i hm
        split at hf
        · rename_i hl
          obtain ⟨a, vs, rfl, a1, a2, a3⟩ := r.lst hm dv
          exact ⟨_, _, rfl, SqL.of a2, a3.length ▸ hl, ρ, M, env, _, r, he, a3, env', M', hf, hq⟩
        · cases hf
      · cases hf
    · cases hf
/-- o[i] = v of a list -/
def setD (o i v : Dv) (M : Mem) : Option Mem :=
  match o, i with
  | .loc n, .int k => match M[n]? with
    | some (.lst xs) => match ixN xs.length k with
      | some j => some (M.set n (.lst (xs.set j v)))
      | none => none
    | _ => none
  | _, _ => none
def gS (fo fi : FE) : FG := fun d env M => bnd (fo env M) fun o M1 => bnd (fi env M1) fun i M2 => match setD o i d M2 with
  | some M3 => some (env, M3)
  | none => none
theorem sg_sub (ho : SE X ct o fo) (hi : SE X ct i' fi)
    (ha : ∀ v, assign (.Subscript o i' pos) X.env v = (do
      let ov ← holding [v] (eval o X.env)
      let iv ← holding [v, ov] (eval i' X.env)
      standAt pos
      holding [v, ov, iv] (setItem ov iv v)
      release [v, ov, iv] []) := by intro _; rfl) : SG X ct ws (.Subscript o i' pos) (gS fo fi) :=
  PG.imp (pg_sub ho hi set_list ha) fun v σ H Q ⟨ρ, M, env, d, r, he, dv, env', M', hf, hq⟩ => by
    obtain ⟨x, M1, h1, hf⟩ := bnd_some hf
    obtain ⟨y, M2, h2, hf⟩ := bnd_some hf
    refine ⟨ρ, M, env, r, he, x, M1, h1, fun ρ1 H1 e1 r1 w dw => ⟨ρ1, M1, env, r1, he.mono e1, y, M2, h2, fun ρ2 H2 e2 r2 u du => ?_⟩⟩
    split at hf
    · rename_i M3 hs
      cases hf
      unfold setD at hs
      split at hs
      · split at hs
        · rename_i hm
          split at hs
          · rename_i j hj
            cases hs
            obtain ⟨a, vs, rfl, a1, a2, a3⟩ := r2.lst hm (dw.mono e2)
            cases du
            obtain ⟨r3, e3⟩ := r2.putL a1 (a3.set ((dv.mono e1).mono e2) j)
            exact ⟨a, vs, _, j, rfl, rfl, a2, by rw [← a3.length]; exact hj, hq ρ2 _ ((e1.trans e2).trans e3) r3 σ (((he.mono e1).mono e2).mono e3) .refl⟩
          · cases hs
        · cases hs
      · cases hs
    · cases hf
end

/-! ## Statements -/
inductive Fl where
  | nx (env : En)
  | rt (d : Dv)
  | bk (env : En)
  | ct (env : En)
abbrev FS := En → Mem → Option (Fl × Mem)
def endF (K : Frg) (D : Ends) (fl : Fl) (ρ : List Addr) (H : Hp) : Prop :=
  match fl with
  | .nx env => ∀ σ, EnOk K ρ H env σ → D.nx σ H
  | .rt d => ∀ v, DV K ρ H d v → D.rt v H
  | .bk env => ∀ σ, EnOk K ρ H env σ → D.bk σ H
  | .ct env => ∀ σ, EnOk K ρ H env σ → D.ct σ H
def tS (K : Frg) (ct : Ct) (f : FS) : TS := fun D σ H => ∃ ρ M env, Rl K ct ρ M H ∧ EnOk K ρ H env σ ∧ ∃ fl M', f env M = some (fl, M') ∧ Aft K ct ρ H M' fun ρ' H' => endF K D fl ρ' H'
abbrev SS (X : Cx) (ct : Ct) (st : Stmt) (f : FS) : Prop := PS X st (tS X.K ct f)
abbrev SSs (X : Cx) (ct : Ct) (st : List Stmt) (f : FS) : Prop := PSs X st (tS X.K ct f)
section
variable {X : Cx} {ct : Ct} {st : Stmt} {rest body orelse : List Stmt} {e c o v' tg : Expr} {pos tpos : Pos} {f g : FS} {fe fo fv : FE} {ft : FT} {ws : List Nat}
theorem PS.imp {t t' : TS} (h : PS X st t) (k : ∀ D σ H, t' D σ H → t D σ H) : PS X st t' := ⟨fun pins s σ H D I w => h.run pins s σ H D I (k D σ H w)⟩
theorem PSs.imp {t t' : TS} (h : PSs X rest t) (k : ∀ D σ H, t' D σ H → t D σ H) : PSs X rest t' := ⟨fun pins s σ H D I w => h.run pins s σ H D I (k D σ H w)⟩
def fEnd : FS := fun env M => some (.nx env, M)
def fSeq (f g : FS) : FS := fun env M => bnd (f env M) fun fl M1 => match fl with
  | .nx e1 => g e1 M1
  | .rt d => some (.rt d, M1)
  | .bk e1 => some (.bk e1, M1)
  | .ct e1 => some (.ct e1, M1)
theorem ss_nil : SSs X ct [] fEnd := PSs.imp pss_nil fun D σ H ⟨ρ, M, env, r, he, fl, M', hf, hq⟩ => by
  cases hf
  exact hq ρ H .refl r σ he
theorem ss_cons (h1 : SS X ct st f) (h2 : SSs X ct rest g) : SSs X ct (st :: rest) (fSeq f g) :=
  PSs.imp (pss_cons h1 h2) fun D σ H ⟨ρ, M, env, r, he, fl, M', hf, hq⟩ => by
    obtain ⟨f1, M1, h1, hf⟩ := bnd_some hf
    refine ⟨ρ, M, env, r, he, f1, M1, h1, fun ρ1 H1 e1 r1 => ?_⟩
    cases f1 with
    | nx e2 => exact fun σ1 en1 => ⟨ρ1, M1, e2, r1, en1, fl, M', hf, hq.later e1⟩
    | rt d => cases hf; exact hq ρ1 H1 e1 r1
    | bk e2 => cases hf; exact hq ρ1 H1 e1 r1
    | ct e2 => cases hf; exact hq ρ1 H1 e1 r1
theorem ss_one (h1 : SS X ct st f) : SSs X ct [st] f := pss_one h1
theorem ss_pass : SS X ct (.Pass pos) fEnd := PS.imp ps_pass fun D σ H ⟨ρ, M, env, r, he, fl, M', hf, hq⟩ => by
  cases hf
  exact hq ρ H .refl r σ he
def fBrk : FS := fun env M => some (.bk env, M)
def fCnt : FS := fun env M => some (.ct env, M)
theorem ss_break : SS X ct (.Break pos) fBrk := PS.imp ps_break fun D σ H ⟨ρ, M, env, r, he, fl, M', hf, hq⟩ => by
  cases hf
  exact hq ρ H .refl r σ he
theorem ss_continue : SS X ct (.Continue pos) fCnt := PS.imp ps_continue fun D σ H ⟨ρ, M, env, r, he, fl, M', hf, hq⟩ => by
  cases hf
  exact hq ρ H .refl r σ he
/-- code that no run served here comes to -/
def fNo : FS := fun _ _ => none
theorem ss_never : SS X ct st fNo := PS.imp ps_never fun D σ H ⟨_, _, _, _, _, _, _, hf, _⟩ => by cases hf
theorem sss_never : SSs X ct rest fNo := PSs.imp pss_never fun D σ H ⟨_, _, _, _, _, _, _, hf, _⟩ => by cases hf
def fDrop (f : FE) : FS := fun env M => bnd (f env M) fun _ M1 => some (.nx env, M1)
theorem ss_expr (h : SE X ct e fe) (hs : swapsWith e none pos.line X.env = pure false := by rfl) : SS X ct (.Expr e pos) (fDrop fe) :=
  PS.imp (ps_expr h hs) fun D σ H ⟨ρ, M, env, r, he, fl, M', hf, hq⟩ => by
    obtain ⟨x, M1, h1, hf⟩ := bnd_some hf
    cases hf
    exact ⟨ρ, M, env, r, he, x, _, h1, fun ρ1 H1 e1 r1 v dv => hq ρ1 H1 e1 r1 σ (he.mono e1)⟩
def fRet (f : FE) : FS := fun env M => bnd (f env M) fun d M1 => some (.rt d, M1)
theorem ss_ret (h : SE X ct e fe) : SS X ct (.Return (some e) pos) (fRet fe) :=
  PS.imp (ps_ret h) fun D σ H ⟨ρ, M, env, r, he, fl, M', hf, hq⟩ => by
    obtain ⟨x, M1, h1, hf⟩ := bnd_some hf
    cases hf
    exact ⟨ρ, M, env, r, he, x, _, h1, fun ρ1 H1 e1 r1 v dv => hq ρ1 H1 e1 r1 v dv⟩
def fRetN : FS := fun _ M => some (.rt .non, M)
theorem ss_retN : SS X ct (.Return none pos) fRetN :=
  PS.imp ps_retN fun D σ H ⟨ρ, M, env, r, he, fl, M', hf, hq⟩ => by
    cases hf
    exact hq ρ H .refl r _ .non
def fIfS (c : FT) (f g : FS) : FS := fun env M => bnd (c env M) fun b M1 => if b then f env M1 else g env M1
theorem ss_if (hc : ST X ct c ft) (h1 : SSs X ct body f) (h2 : SSs X ct orelse g) : SS X ct (.If c body orelse pos) (fIfS ft f g) :=
  PS.imp (ps_if hc h1 h2) fun D σ H ⟨ρ, M, env, r, he, fl, M', hf, hq⟩ => by
    obtain ⟨b, M1, h1, hf⟩ := bnd_some hf
    refine ⟨ρ, M, env, r, he, b, M1, h1, fun ρ1 H1 e1 r1 => ?_⟩
    cases b with
    | true =>
      rw [if_pos rfl]
      exact ⟨ρ1, M1, env, r1, he.mono e1, fl, M', hf, hq.later e1⟩
    | false =>
      rw [if_neg (by decide)]
      exact ⟨ρ1, M1, env, r1, he.mono e1, fl, M', hf, hq.later e1⟩
/-- name = e -/
def fSet (i : Nat) (f : FE) : FS := fun env M => bnd (f env M) fun d M1 => some (.nx (env.set i (some d)), M1)
theorem ss_set {i : Nat} {x : Str} {pos' : Pos} (hN : X.N.Nodup) (hi : X.N[i]? = some x) (hx : Loc X.env.scope x) (h : SE X ct e fe) (hs : swapsWith e (some (.Name x pos')) pos.line X.env = pure false := by rfl) (hf : X.fn x = true ∨ X.env.scope.names.lookup x = some .local := by first | exact .inl rfl | exact .inr rfl | assumption) :
    SS X ct (.Assign [.Name x pos'] e pos) (fSet i fe) :=
  PS.imp (ps_set hN hi hx h hs hf) fun D σ H ⟨ρ, M, env, r, he, fl, M', hf, hq⟩ => by
    obtain ⟨d, M1, h1, hf⟩ := bnd_some hf
    cases hf
    exact ⟨ρ, M, env, r, he, d, _, h1, fun ρ1 H1 e1 r1 v dv => hq ρ1 H1 e1 r1 _ ((he.mono e1).set i dv)⟩
/-- target = e -/
def fAsg (f : FE) (g : FG) : FS := fun env M => bnd (f env M) fun d M1 => bnd (g d env M1) fun e1 M2 => some (.nx e1, M2)
theorem ss_asg {gg : FG} (h : SE X ct e fe) (hg : SG X ct ws tg gg) (hs : swapsWithSole [tg] e pos.line X.env = pure false := by rfl) (hw : swappedStores [tg] e X.env = pure none := by rfl)
    (h1 : (assignEach [tg] X.env).map (·.2) = [assign tg X.env] := by rfl) : SS X ct (.Assign [tg] e pos) (fAsg fe gg) :=
  PS.imp (ps_asg h hg hs hw h1) fun D σ H ⟨ρ, M, env, r, he, fl, M', hf, hq⟩ => by
    obtain ⟨d, M1, h1, hf⟩ := bnd_some hf
    obtain ⟨e2, M2, h2, hf⟩ := bnd_some hf
    cases hf
    exact ⟨ρ, M, env, r, he, d, M1, h1, fun ρ1 H1 e1 r1 v dv => ⟨ρ1, M1, env, d, r1, he.mono e1, dv, e2, _, h2, fun ρ2 H2 x2 r2 σ2 en2 _ => hq ρ2 H2 (e1.trans x2) r2 σ2 en2⟩⟩
/-- a, b = x, y: plain local names -/
def fPar (is : List Nat) (f : FA) : FS := fun env M => bnd (f env M) fun ds M1 => if ds.length = is.length then some (.nx ((is.zip ds).foldl (fun e p => e.set p.1 (some p.2)) env), M1) else none
theorem ss_par {i j : Nat} {x y : Str} {a b : Expr} {fr : FA} {px py pt : Pos} {kt k2 pt2} (hc : X.calm = true) (hN : X.N.Nodup) (hi : X.N[i]? = some x) (hj : X.N[j]? = some y) (hij : i ≠ j)
    (hx : X.env.scope.names.lookup x = some .local) (hy : X.env.scope.names.lookup y = some .local) (ha : SA X ct [a, b] fr)
    (hw : swappedStores [.Tuple [.Name x px, .Name y py] kt pt] (.Tuple [a, b] k2 pt2) X.env = pure (some [x, y]))
    (hs : swapsWithSole [.Tuple [.Name x px, .Name y py] kt pt] (.Tuple [a, b] k2 pt2) pos.line X.env = pure false := by rfl) :
    SS X ct (.Assign [.Tuple [.Name x px, .Name y py] kt pt] (.Tuple [a, b] k2 pt2) pos) (fPar [i, j] fr) :=
  PS.imp (ps_par hc hN hi hj hij hx hy ha hw hs) fun D σ H ⟨ρ, M, env, r, he, fl, M', hf, hq⟩ => by
    obtain ⟨ds, M1, h1, hf⟩ := bnd_some hf
    split at hf
    · rename_i hl
      cases hf
      refine ⟨ρ, M, env, r, he, ds, _, h1, fun ρ1 H1 e1 r1 vs dvs => ?_⟩
      match ds, hl, dvs with
      | [d1, d2], _, dvs =>
        obtain ⟨u, w, rfl, q1, q2⟩ := dvs_two dvs
        exact ⟨u, w, rfl, hq ρ1 H1 e1 r1 _ (((he.mono e1).set i q1).set j q2)⟩
    · cases hf
theorem ss_par3 {i j l : Nat} {x y z : Str} {a b c : Expr} {fr : FA} {px py pz pt : Pos} {kt k2 pt2} (hc : X.calm = true) (hN : X.N.Nodup) (hi : X.N[i]? = some x) (hj : X.N[j]? = some y) (hl : X.N[l]? = some z) (hij : i ≠ j) (hil : i ≠ l) (hjl : j ≠ l)
    (hx : X.env.scope.names.lookup x = some .local) (hy : X.env.scope.names.lookup y = some .local) (hz : X.env.scope.names.lookup z = some .local) (ha : SA X ct [a, b, c] fr)
    (hw : swappedStores [.Tuple [.Name x px, .Name y py, .Name z pz] kt pt] (.Tuple [a, b, c] k2 pt2) X.env = pure (some [x, y, z]))
    (hs : swapsWithSole [.Tuple [.Name x px, .Name y py, .Name z pz] kt pt] (.Tuple [a, b, c] k2 pt2) pos.line X.env = pure false := by rfl) :
    SS X ct (.Assign [.Tuple [.Name x px, .Name y py, .Name z pz] kt pt] (.Tuple [a, b, c] k2 pt2) pos) (fPar [i, j, l] fr) :=
  PS.imp (ps_par3 hc hN hi hj hl hij hil hjl hx hy hz ha hw hs) fun D σ H ⟨ρ, M, env, r, he, fl, M', hf, hq⟩ => by
    obtain ⟨ds, M1, h1, hf⟩ := bnd_some hf
    split at hf
    · rename_i hl
      cases hf
      refine ⟨ρ, M, env, r, he, ds, _, h1, fun ρ1 H1 e1 r1 vs dvs => ?_⟩
      match ds, hl, dvs with
      | [d1, d2, d3], _, dvs =>
        cases dvs with
        | cons q1 qs =>
          obtain ⟨u, w, rfl, q2, q3⟩ := dvs_two qs
          exact ⟨_, u, w, rfl, hq ρ1 H1 e1 r1 _ ((((he.mono e1).set i q1).set j q2).set l q3)⟩
    · cases hf
/-- name op= e of ints -/
def fAug (i : Nat) (h : Int → Int → Int) (f : FE) : FS := fun env M => match env[i]? with
  | some (some (.int a)) => bnd (f env M) fun d M1 => match d with
    | .int b => some (.nx (env.set i (some (.int (h a b)))), M1)
    | _ => none
  | _ => none
theorem ss_aug {i : Nat} {x : Str} {op : Operator} {h : Int → Int → Int} {pos' : Pos} (hN : X.N.Nodup) (hi : X.N[i]? = some x) (hx : Loc X.env.scope x) (he : SE X ct e fe) (ho : PIp X op (ipI h)) (hf : X.fn x = true ∨ X.env.scope.names.lookup x = some .local := by first | exact .inl rfl | exact .inr rfl | assumption) :
    SS X ct (.AugAssign (.Name x pos') op e pos) (fAug i h fe) :=
  PS.imp (ps_aug hN hi hx he ho hf) fun D σ H ⟨ρ, M, env, r, hen, fl, M', hf, hq⟩ => by
    unfold fAug at hf
    split at hf
    · rename_i a ha
      obtain ⟨d, M1, h1, hf⟩ := bnd_some hf
      split at hf
      · rename_i b
        cases hf
        obtain ⟨v, v1, v2⟩ := hen.2 i _ ha
        cases v2
        refine ⟨_, v1, ρ, M, env, r, hen, _, _, h1, fun ρ1 H1 e1 r1 w dw => ?_⟩
        cases dw
        exact ⟨_, _, rfl, rfl, hq ρ1 H1 e1 r1 _ ((hen.mono e1).set i (.int _))⟩
      · cases hf
    · cases hf

/-! ## while -/
def whileF (c : FT) (body : FS) : Nat → FS
  | 0 => fun _ _ => none
  | k + 1 => fun env M => bnd (c env M) fun b M1 => if b then bnd (body env M1) fun fl M2 => match fl with
      | .nx e1 => whileF c body k e1 M2
      | .ct e1 => whileF c body k e1 M2
      | .bk e1 => some (.nx e1, M2)
      | .rt d => some (.rt d, M2)
    else some (.nx env, M1)
theorem ss_while (k : Nat) (hp : PassesOwn (model X.prog X.w) X.A X.env X.xe) (hc : ST X ct c ft) (hb : SSs X ct body f) : SS X ct (.While c body [] pos) (whileF ft f k) := by
  refine PS.imp (ps_while hp hc hb) fun D σ H w => ?_
  refine ⟨fun m σ H => ∃ ρ M env, Rl X.K ct ρ M H ∧ EnOk X.K ρ H env σ ∧ ∃ fl M', whileF ft f m env M = some (fl, M') ∧ Aft X.K ct ρ H M' fun ρ' H' => endF X.K D fl ρ' H', ⟨k, w⟩, ?_⟩
  intro m σ H w
  obtain ⟨ρ, M, env, r, he, fl, M', hf, hq⟩ := w
  cases m with
  | zero => cases hf
  | succ m =>
    obtain ⟨b, M1, h1, hf⟩ := bnd_some hf
    refine ⟨ρ, M, env, r, he, b, M1, h1, fun ρ1 H1 e1 r1 => ?_⟩
    cases b with
    | false =>
      rw [if_neg (by decide)]
      cases hf
      exact hq ρ1 H1 e1 r1 σ (he.mono e1)
    | true =>
      rw [if_pos rfl]
      rw [if_pos rfl] at hf
      obtain ⟨f1, M2, h2, hf⟩ := bnd_some hf
      refine ⟨fun σ' H' => ∃ ρ M env, Rl X.K ct ρ M H' ∧ EnOk X.K ρ H' env σ' ∧ ∃ fl M', whileF ft f m env M = some (fl, M') ∧ Aft X.K ct ρ H' M' fun ρ' H' => endF X.K D fl ρ' H', fun σ' H' n => ⟨m, Nat.lt_succ_self m, n⟩, ?_⟩
      refine ⟨ρ1, M1, env, r1, he.mono e1, f1, M2, h2, fun ρ2 H2 e2 r2 => ?_⟩
      cases f1 with
      | nx e3 => exact fun σ2 en2 => ⟨ρ2, M2, e3, r2, en2, fl, M', hf, hq.later (e1.trans e2)⟩
      | ct e3 => exact fun σ2 en2 => ⟨ρ2, M2, e3, r2, en2, fl, M', hf, hq.later (e1.trans e2)⟩
      | bk e3 => cases hf; exact fun σ2 en2 => hq ρ2 H2 (e1.trans e2) r2 σ2 en2
      | rt d => cases hf; exact hq ρ2 H2 (e1.trans e2) r2
end
end Zl

/-! text Z8 -/
namespace Zl
open PySem L2 PySem.Spec PyProof.Rows

/-! ## What is walked -/
/-- at turn i: the item, or the end -/
abbrev Stp := Nat → Mem → Option (Option Dv)
structure Src where
  many : Nat
  stp : Stp
def Feeds (K : Frg) (ct : Ct) (ρ0 : List Addr) (H0 : Hp) (J : It) (it : Stp) : Prop := ∀ i ρ M H, Ext K ρ0 H0 ρ H → Rl K ct ρ M H →
  match it i M with
  | some (some d) => J.go i H ∧ ∀ x H', J.yld i H x H' → Ext K ρ H ρ H' ∧ Rl K ct ρ M H' ∧ DV K ρ H' d x
  | some none => J.stop i H
  | none => True
abbrev FI := En → Mem → Option (Src × Mem)
def tI (K : Frg) (ct : Ct) (f : FI) : TI := fun σ H R => ∃ ρ M env, Rl K ct ρ M H ∧ EnOk K ρ H env σ ∧ ∃ src M', f env M = some (src, M') ∧ Aft K ct ρ H M' fun ρ' H' => ∀ J, Feeds K ct ρ' H' J src.stp → R J H'
abbrev SI (X : Cx) (ct : Ct) (tg iter : Expr) (f : FI) : Prop := PI X tg iter (tI X.K ct f)
section
variable {X : Cx} {ct : Ct} {tg iter e a b : Expr} {pos p : Pos} {fe fa fb : FE} {fi : FI} {fr : FA}
theorem PI.imp {t t' : TI} (h : PI X tg iter t) (k : ∀ σ H R, t' σ H R → t σ H R) : PI X tg iter t' := ⟨fun pins s σ H R I w => h.run pins s σ H R I (k σ H R w)⟩
theorem PI.or {t t' : TI} (h : PI X tg iter t) (h' : PI X tg iter t') : PI X tg iter (fun σ H R => t σ H R ∨ t' σ H R) :=
  ⟨fun pins s σ H R I w => w.elim (h.run pins s σ H R I) (h'.run pins s σ H R I)⟩
/-- a tuple, a list, a text -/
def srcOf (M : Mem) : Dv → Option Src
  | .tup xs => some ⟨xs.length, fun i _ => some xs[i]?⟩
  | .rol xs => some ⟨xs.length, fun i _ => some xs[i]?⟩
  | .loc n => match M[n]? with
    | some (.lst xs) => some ⟨xs.length, fun i M => match M[n]? with
      | some (.lst xs) => some xs[i]?
      | _ => none⟩
    | _ => none
  | .str x => some ⟨x.cps.size, fun i _ => some (x.cps[i]?.map fun c => .str ⟨#[c]⟩)⟩
  | _ => none
def fSrc (f : FE) : FI := fun env M => bnd (f env M) fun d M1 => match srcOf M1 d with
  | some s => some (s, M1)
  | none => none
theorem feeds_tup {K : Frg} {ρ0 : List Addr} {H0 : Hp} {a : Addr} {xs : List Dv} {vs : List V} (hs : TupD K H0 a vs) (hd : DVs K ρ0 H0 xs vs) : Feeds K ct ρ0 H0 (Itt K a) (fun i _ => some xs[i]?) := by
  intro i ρ M H x r
  dsimp only
  cases q : xs[i]? with
  | none => exact ⟨vs, (hs.mono x).sq, by rw [← hd.length]; exact List.getElem?_eq_none_iff.mp q⟩
  | some d =>
    obtain ⟨v, h1, h2⟩ := hd.get q
    refine ⟨⟨vs, v, (hs.mono x).sq, h1⟩, fun y H' hy => ?_⟩
    obtain ⟨e, hy⟩ := hy
    subst e
    have := hy vs (hs.mono x).sq
    rw [h1] at this; cases this
    exact ⟨.refl, r, h2.mono x⟩
theorem feeds_rol {K : Frg} {ρ0 : List Addr} {H0 : Hp} {a : Addr} {xs : List Dv} {vs : List V} (hs : SqF K H0 a vs) (hd : DVs K ρ0 H0 xs vs) : Feeds K ct ρ0 H0 (Itl K a) (fun i _ => some xs[i]?) := by
  intro i ρ M H x r
  dsimp only
  cases q : xs[i]? with
  | none => exact ⟨vs, (hs.mono x).sq, by rw [← hd.length]; exact List.getElem?_eq_none_iff.mp q⟩
  | some d =>
    obtain ⟨v, h1, h2⟩ := hd.get q
    refine ⟨⟨vs, v, (hs.mono x).sq, h1⟩, fun y H' hy => ?_⟩
    obtain ⟨e, hy⟩ := hy
    subst e
    have := hy vs (hs.mono x).sq
    rw [h1] at this; cases this
    exact ⟨.refl, r, h2.mono x⟩
theorem feeds_lst {K : Frg} {ρ0 : List Addr} {H0 : Hp} {a : Addr} {n : Nat} (hn : ρ0[n]? = some a) : Feeds K ct ρ0 H0 (Itl K a) (fun i M => match M[n]? with
      | some (.lst xs) => some xs[i]?
      | _ => none) := by
  intro i ρ M H x r
  dsimp only
  split
  · rename_i d hd
    split at hd
    · rename_i xs hm
      obtain ⟨b, vs, eb, b1, b2, b3⟩ := r.lst hm (.loc (x.pre n a hn))
      cases eb
      have q : xs[i]? = some d := by simpa using hd
      obtain ⟨v, h1, h2⟩ := b3.get q
      refine ⟨⟨vs, v, SqL.of b2, h1⟩, fun y H' hy => ?_⟩
      obtain ⟨e, hy⟩ := hy
      subst e
      have := hy vs (SqL.of b2)
      rw [h1] at this; cases this
      exact ⟨.refl, r, h2⟩
    · cases hd
  · rename_i hd
    split at hd
    · rename_i xs hm
      obtain ⟨b, vs, eb, b1, b2, b3⟩ := r.lst hm (.loc (x.pre n a hn))
      cases eb
      have q : xs[i]? = none := by simpa using hd
      exact ⟨vs, SqL.of b2, by rw [← b3.length]; exact List.getElem?_eq_none_iff.mp q⟩
    · cases hd
  · trivial
theorem feeds_str {K : Frg} {ρ0 : List Addr} {H0 : Hp} {x : Str} : Feeds K ct ρ0 H0 (Its x) (fun i _ => some (x.cps[i]?.map fun c => .str ⟨#[c]⟩)) := by
  intro i ρ M H _ r
  dsimp only
  cases q : x.cps[i]? with
  | none => exact Array.getElem?_eq_none_iff.mp q
  | some c =>
    refine ⟨(Array.getElem?_eq_some_iff.mp q).1, fun y H' hy => ?_⟩
    obtain ⟨e, c', hc', ey⟩ := hy
    subst e; subst ey
    rw [q] at hc'; cases hc'
    exact ⟨.refl, r, .str _⟩
theorem si_seq (h : SE X ct e fe) : SI X ct tg e (fSrc fe) := by
  refine PI.imp (PI.or (PI.or (pi_list h) (pi_tup h)) (pi_str h)) fun σ H R ⟨ρ, M, env, r, he, src, M', hf, hq⟩ => ?_
  obtain ⟨d, M1, h1, hf⟩ := bnd_some hf
  split at hf
  · rename_i s0 hs
    cases hf
    unfold srcOf at hs
    split at hs
    · cases hs
      exact .inl (.inr ⟨ρ, M, env, r, he, _, _, h1, fun ρ1 H1 e1 r1 v dv => by
        cases dv with
        | tup hs hd => exact ⟨_, rfl, ⟨_, hs.sq⟩, hq ρ1 H1 e1 r1 _ (feeds_tup hs hd)⟩⟩)
    · cases hs
      exact .inl (.inl ⟨ρ, M, env, r, he, _, _, h1, fun ρ1 H1 e1 r1 v dv => by
        cases dv with
        | rol hs hd => exact ⟨_, rfl, ⟨_, hs.sq⟩, hq ρ1 H1 e1 r1 _ (feeds_rol hs hd)⟩⟩)
    · split at hs
      · rename_i hm
        cases hs
        exact .inl (.inl ⟨ρ, M, env, r, he, _, _, h1, fun ρ1 H1 e1 r1 v dv => by
          obtain ⟨a, vs, rfl, a1, a2, a3⟩ := r1.lst hm dv
          exact ⟨_, rfl, ⟨_, SqL.of a2⟩, hq ρ1 H1 e1 r1 _ (feeds_lst a1)⟩⟩)
      · cases hs
    · cases hs
      exact .inr ⟨ρ, M, env, r, he, _, _, h1, fun ρ1 H1 e1 r1 v dv => by
        cases dv
        exact ⟨_, rfl, hq ρ1 H1 e1 r1 _ feeds_str⟩⟩
    · cases hs
  · cases hf
/-- range(n), range(a, b) -/
def srcR (lo : Int) (n : Nat) : Src := ⟨n, fun i _ => if i < n then some (some (.int (lo + i))) else some none⟩
theorem feeds_rng {K : Frg} {ρ0 : List Addr} {H0 : Hp} {lo : Int} {n : Nat} : Feeds K ct ρ0 H0 (Itr lo n) (srcR lo n).stp := by
  intro i ρ M H _ r
  show (match (if i < n then some (some (Dv.int (lo + i))) else some none) with | some (some d) => _ | some none => _ | none => _)
  by_cases hi : i < n
  · rw [if_pos hi]
    refine ⟨hi, fun y H' hy => ?_⟩
    obtain ⟨e, ey⟩ := hy
    subst e; subst ey
    exact ⟨.refl, r, .int _⟩
  · rw [if_neg hi]
    exact Nat.le_of_not_lt hi
def fRng1 (f : FE) : FI := fun env M => bnd (f env M) fun d M1 => match d with
  | .int j => if -(2 ^ 62) ≤ j ∧ j < 2 ^ 62 then some (srcR 0 j.toNat, M1) else none
  | _ => none
def fRng2 (f g : FE) : FI := fun env M => bnd (f env M) fun d M1 => bnd (g env M1) fun d2 M2 => match d, d2 with
  | .int i, .int j => if -(2 ^ 62) ≤ i ∧ i < 2 ^ 62 ∧ -(2 ^ 62) ≤ j ∧ j < 2 ^ 62 then some (srcR i (j - i).toNat, M2) else none
  | _, _ => none
theorem si_range1 (hg : Gl X "range") (hm : X.mg "range" = none) (ha : SE X ct a fa) (hs : starEach [a] X.env = [(false, eval a X.env)] := by rfl) : SI X ct tg (.Call (.Name "range" p) [a] [] pos) (fRng1 fa) :=
  PI.imp (pi_range1 hg hm (sa_cons ha sa_nil hs) hs) fun σ H R ⟨ρ, M, env, r, he, src, M', hf, hq⟩ => by
    obtain ⟨d, M1, h1, hf⟩ := bnd_some hf
    refine ⟨ρ, M, env, r, he, [d], M1, by show bnd (fa env M) _ = _; rw [h1]; rfl, fun ρ1 H1 e1 r1 vs dvs => ?_⟩
    split at hf
    · split at hf
      · rename_i hb
        cases hf
        obtain ⟨v, rfl, d1⟩ := dvs_one dvs
        cases d1
        exact ⟨_, rfl, hb.1, hb.2, hq ρ1 H1 e1 r1 _ feeds_rng⟩
      · cases hf
    · cases hf
theorem si_range2 (hg : Gl X "range") (hm : X.mg "range" = none) (ha : SE X ct a fa) (hb : SE X ct b fb) (hs : starEach [a, b] X.env = [(false, eval a X.env), (false, eval b X.env)] := by rfl) (hs2 : starEach [b] X.env = [(false, eval b X.env)] := by rfl) : SI X ct tg (.Call (.Name "range" p) [a, b] [] pos) (fRng2 fa fb) :=
  PI.imp (pi_range2 hg hm (sa_cons ha (sa_cons hb sa_nil hs2) (by rw [hs, hs2])) hs hs2) fun σ H R ⟨ρ, M, env, r, he, src, M', hf, hq⟩ => by
    obtain ⟨d, M1, h1, hf⟩ := bnd_some hf
    obtain ⟨d2, M2, h2, hf⟩ := bnd_some hf
    refine ⟨ρ, M, env, r, he, [d, d2], M2, by show bnd (fa env M) _ = _; rw [h1]; show bnd (bnd (fb env M1) _) _ = _; rw [h2]; rfl, fun ρ1 H1 e1 r1 vs dvs => ?_⟩
    split at hf
    · split at hf
      · rename_i hb
        cases hf
        obtain ⟨v, u, rfl, d1, d2⟩ := dvs_two dvs
        cases d1; cases d2
        exact ⟨_, _, rfl, hb, hq ρ1 H1 e1 r1 _ feeds_rng⟩
      · cases hf
    · cases hf

/-! ## for -/
variable {g : FG} {f : FS} {body : List Stmt} {ws : List Nat}
def loopF (it : Stp) (g : FG) (f : FS) : Nat → Nat → FS
  | 0, i => fun env M => match it i M with
    | some none => some (.nx env, M)
    | _ => none
  | k + 1, i => fun env M => match it i M with
    | some none => some (.nx env, M)
    | some (some d) => bnd (g d env M) fun e1 M1 => bnd (f e1 M1) fun fl M2 => match fl with
      | .nx e2 => loopF it g f k (i + 1) e2 M2
      | .ct e2 => loopF it g f k (i + 1) e2 M2
      | .bk e2 => some (.nx e2, M2)
      | .rt d => some (.rt d, M2)
    | none => none
def fFor (fi : FI) (g : FG) (f : FS) : FS := fun env M => bnd (fi env M) fun src M1 => loopF src.stp g f src.many 0 env M1
theorem ss_for (hp : PassesOwn (model X.prog X.w) X.A X.env X.xe) (hc : X.calm = true) (hi : SI X ct tg iter fi) (hg : SG X ct ws tg g) (hb : SSs X ct body f)
    (hs : ∀ x, foldedSetIterable iter X.env x = pure x := by intro _; rfl) : SS X ct (.For tg iter body [] pos) (fFor fi g f) := by
  refine PS.imp (ps_for hp hc hi hg hb hs) fun D σ H ⟨ρ, M, env, r, he, fl, M', hf, hq⟩ => ?_
  obtain ⟨src, M1, h1, hf⟩ := bnd_some hf
  refine ⟨ρ, M, env, r, he, src, M1, h1, fun ρ0 H0 e0 r0 J hJ => ?_⟩
  refine ⟨fun i m σ H => ∃ ρ M env, Ext X.K ρ0 H0 ρ H ∧ Rl X.K ct ρ M H ∧ EnOk X.K ρ H env σ ∧ ∃ fl M', loopF src.stp g f m i env M = some (fl, M') ∧ Aft X.K ct ρ H M' fun ρ' H' => endF X.K D fl ρ' H',
    ⟨src.many, ρ0, M1, env, .refl, r0, he.mono e0, fl, M', hf, hq.later e0⟩, ?_⟩
  rintro i m σ H ⟨ρ, M, env, x0, r, he, fl, M', hf, hq⟩
  have hj := hJ i ρ M H x0 r
  cases q : src.stp i M with
  | none =>
    cases m with
    | zero => (simp only [loopF, q] at hf; try cases hf)
    | succ m => (simp only [loopF, q] at hf; try cases hf)
  | some o =>
    rw [q] at hj
    cases o with
    | none =>
      have e : some (Fl.nx env, M) = some (fl, M') := by
        cases m with
        | zero => simpa only [loopF, q] using hf
        | succ m => simpa only [loopF, q] using hf
      cases e
      exact .inl ⟨hj, hq ρ H .refl r σ he⟩
    | some d =>
      cases m with
      | zero => (simp only [loopF, q] at hf; try cases hf)
      | succ m =>
        simp only [loopF, q] at hf
        obtain ⟨e1, N1, g1, hf⟩ := bnd_some hf
        obtain ⟨f1, N2, g2, hf⟩ := bnd_some hf
        refine .inr ⟨hj.1, fun σ' H' => ∃ ρ M env, Ext X.K ρ0 H0 ρ H' ∧ Rl X.K ct ρ M H' ∧ EnOk X.K ρ H' env σ' ∧ ∃ fl M', loopF src.stp g f m (i + 1) env M = some (fl, M') ∧ Aft X.K ct ρ H' M' fun ρ' H' => endF X.K D fl ρ' H',
          fun σ' H' n => ⟨m, Nat.lt_succ_self m, n⟩, fun x H' hy => ?_⟩
        obtain ⟨y1, y2, y3⟩ := hj.2 x H' hy
        refine ⟨ρ, M, env, d, y2, he.mono y1, y3, e1, N1, g1, fun ρ1 H1 x1 r1 σ1 en1 _ => ⟨ρ1, N1, e1, r1, en1, f1, N2, g2, fun ρ2 H2 x2 r2 => ?_⟩⟩
        have xx := (y1.trans x1).trans x2
        cases f1 with
        | nx e3 => exact fun σ2 en2 => ⟨ρ2, N2, e3, x0.trans xx, r2, en2, fl, M', hf, hq.later xx⟩
        | ct e3 => exact fun σ2 en2 => ⟨ρ2, N2, e3, x0.trans xx, r2, en2, fl, M', hf, hq.later xx⟩
        | bk e3 => cases hf; exact fun σ2 en2 => hq ρ2 H2 xx r2 σ2 en2
        | rt d => cases hf; exact hq ρ2 H2 xx r2
/-! ## comprehensions, one clause -/
def wipeE (env : En) : List Nat → En
  | [] => env
  | v :: vs => (wipeE env vs).set v none
theorem EnOk.forget {K : Frg} {ρ : List Addr} {H : Hp} {env : En} {σ : L2.St} (h : EnOk K ρ H env σ) (i : Nat) : EnOk K ρ H (env.set i none) (σ.set i none) := by
  refine ⟨by simp [h.1], fun j x q => ?_⟩
  by_cases hij : i = j
  · subst hij
    rw [List.getElem?_set] at q
    split at q
    · split at q
      · cases q
      · cases q
    · exact absurd rfl (by assumption)
  · rw [List.getElem?_set_ne hij] at q
    obtain ⟨u, h1, h2⟩ := h.2 j x q
    exact ⟨u, by rw [List.getElem?_set_ne hij]; exact h1, h2⟩
theorem EnOk.wipe {K : Frg} {ρ : List Addr} {H : Hp} {env : En} {σ : L2.St} (h : EnOk K ρ H env σ) : ∀ vs : List Nat, EnOk K ρ H (wipeE env vs) (L2.wipe σ vs)
  | [] => h
  | v :: vs => (EnOk.wipe h vs).forget v
theorem getElem?_wipe (σ : L2.St) (i : Nat) : ∀ vs : List Nat, (L2.wipe σ vs)[i]? = if i ∈ vs then (if i < σ.length then some none else none) else σ[i]?
  | [] => by simp [L2.wipe]
  | v :: vs => by
    unfold L2.wipe
    rw [List.getElem?_set, getElem?_wipe σ i vs, L2.wipe_length]
    by_cases hv : v = i
    · subst hv; simp
    · simp [hv, Ne.symm hv]
theorem wipe_eq {vs : List Nat} {σ σ' : L2.St} (h : OutEq vs (L2.wipe σ vs) σ') : L2.wipe σ' vs = L2.wipe σ vs := by
  apply List.ext_getElem?
  intro i
  have hl : σ'.length = σ.length := by rw [h.1, L2.wipe_length]
  rw [getElem?_wipe, getElem?_wipe, hl]
  by_cases hi : i ∈ vs
  · simp [hi]
  · rw [if_neg hi, if_neg hi, h.2 i hi, getElem?_wipe, if_neg hi]
/-- the turns: the new list stands at cell n -/
def compF (it : Stp) (g : FG) (ft : FT) (fe : FE) (e0 : En) (n : Nat) : Nat → Nat → Mem → Option Mem
  | 0, i, M => match it i M with
    | some none => some M
    | _ => none
  | k + 1, i, M => match it i M with
    | some none => some M
    | some (some d) => match g d e0 M with
      | some (e1, M1) => match ft e1 M1 with
        | some (true, M2) => match fe e1 M2 with
          | some (y, M3) => match M3[n]? with
            | some (.lst acc) => if acc.length < sizeLine then compF it g ft fe e0 n k (i + 1) (M3.set n (.lst (acc ++ [y]))) else none
            | _ => none
          | none => none
        | some (false, M2) => compF it g ft fe e0 n k (i + 1) M2
        | none => none
      | none => none
    | none => none
def fComp (fi : FI) (vs : List Nat) (g : FG) (ft : FT) (fe : FE) : FE := fun env M => bnd (fi env M) fun src M1 =>
  match compF src.stp g ft fe (wipeE env vs) M1.length src.many 0 (M1 ++ [.lst []]) with
  | some M2 => some (.loc M1.length, M2)
  | none => none
def fYes : FT := fun _ M => some (true, M)
abbrev STs (X : Cx) (ct : Ct) (ifs : List Expr) (f : FT) : Prop := PTs X ifs (tT X.K ct f)
theorem PTs.imp {ifs : List Expr} {t t' : TT} (h : PTs X ifs t) (k : ∀ σ H Q, t' σ H Q → t σ H Q) : PTs X ifs t' := ⟨fun pins s σ H Q I w => h.run pins s σ H Q I (k σ H Q w)⟩
theorem sts_nil : STs X ct [] fYes := PTs.imp pts_nil fun σ H Q ⟨ρ, M, env, r, he, b, M', hf, hq⟩ => by
  cases hf
  exact hq ρ H .refl r
theorem sts_one {c : Expr} {ft : FT} (h : ST X ct c ft) : STs X ct [c] ft := pts_one h
/-- a comprehension's block -/
abbrev Cx.cb (X : Cx) (scope : Scope) (s : Shared) (H : Hp) (C : Addr) (cl : List (Str × Addr)) (fp : List Addr) : Cx := X.blk s H scope (compEnvC scope cl C X.env) fp
theorem lc_imp {vs : List Nat} {ft : FT} {σ : L2.St} {H : Hp} {Q : VK} (w : tE X.K ct (fComp fi vs g ft fe) σ H Q) : tLc (tI X.K ct fi) (tG X.K ct vs g) (tT X.K ct ft) (tE X.K ct fe) vs σ H Q := by
  obtain ⟨ρ, M, env, r, he, d, M', hf, hq⟩ := w
  obtain ⟨src, M1, h1, hf⟩ := bnd_some hf
  split at hf
  · rename_i M2 hc
    cases hf
    refine ⟨ρ, M, env, r, he, src, M1, h1, fun ρ0 H0 e0 r0 J hJ D hD => ?_⟩
    obtain ⟨rN, xN, aN⟩ := r0.newL hD (.nil : DVs X.K ρ0 H0 [] [])
    refine ⟨fun i m H => ∃ ρ M, Ext X.K ρ0 H0 ρ H ∧ Rl X.K ct ρ M H ∧ ρ[M1.length]? = some D ∧ compF src.stp g ft fe (wipeE env vs) M1.length m i M = some M' ∧ Aft X.K ct ρ H M' fun ρ' H' => ∀ v, DV X.K ρ' H' (.loc M1.length) v → Q v H',
      ⟨src.many, ρ0 ++ [D], _, xN, rN, aN, hc, (hq.later e0).later xN⟩, ?_⟩
    rintro i m H ⟨ρ, M, x0, r, aD, hf, hq⟩
    have hj := hJ i ρ M H x0 r
    have he' := ((he.mono e0).mono x0).wipe vs
    cases q : src.stp i M with
    | none =>
      cases m with
      | zero => rw [compF, q] at hf; cases hf
      | succ m => rw [compF, q] at hf; cases hf
    | some o =>
      rw [q] at hj
      cases o with
      | none =>
        have e : some M = some M' := by
          cases m with
          | zero => rw [compF, q] at hf; exact hf
          | succ m => rw [compF, q] at hf; exact hf
        cases e
        exact .inl ⟨hj, hq ρ H .refl r _ (.loc aD)⟩
      | some d =>
        cases m with
        | zero => rw [compF, q] at hf; cases hf
        | succ m =>
          rw [compF, q] at hf
          dsimp only at hf
          refine .inr ⟨hj.1, fun H' => ∃ ρ M, Ext X.K ρ0 H0 ρ H' ∧ Rl X.K ct ρ M H' ∧ ρ[M1.length]? = some D ∧ compF src.stp g ft fe (wipeE env vs) M1.length m (i + 1) M = some M' ∧ Aft X.K ct ρ H' M' fun ρ' H' => ∀ v, DV X.K ρ' H' (.loc M1.length) v → Q v H',
            fun H' n => ⟨m, Nat.lt_succ_self m, n⟩, fun x H' hy => ?_⟩
          obtain ⟨y1, y2, y3⟩ := hj.2 x H' hy
          split at hf
          · rename_i e1 N1 g1
            refine ⟨ρ, M, wipeE env vs, d, y2, he'.mono y1, y3, e1, N1, g1, fun ρ1 H1 x1 r1 σ1 en1 oe => ⟨wipe_eq oe, ?_⟩⟩
            split at hf
            · rename_i N2 g2
              refine ⟨ρ1, N1, e1, r1, en1, true, N2, g2, fun ρ2 H2 x2 r2 => ?_⟩
              dsimp only
              rw [if_pos rfl]
              split at hf
              · rename_i y N3 g3
                refine ⟨ρ2, N2, e1, r2, en1.mono x2, y, N3, g3, fun ρ3 H3 x3 r3 v dv => ?_⟩
                split at hf
                · rename_i acc hm
                  split at hf
                  · rename_i hl
                    have xx := ((y1.trans x1).trans x2).trans x3
                    have aD3 := xx.pre _ _ aD
                    obtain ⟨b, ws, eb, b1, b2, b3⟩ := r3.lst hm (.loc aD3)
                    cases eb
                    obtain ⟨r4, x4⟩ := r3.putL aD3 (b3.append (.cons dv .nil))
                    exact ⟨ws, b2, by rw [← b3.length]; exact hl, ρ3, _, (x0.trans xx).trans x4, r4, aD3, hf, hq.later (xx.trans x4)⟩
                  · cases hf
                · cases hf
              · cases hf
            · rename_i N2 g2
              refine ⟨ρ1, N1, e1, r1, en1, false, N2, g2, fun ρ2 H2 x2 r2 => ?_⟩
              dsimp only
              rw [if_neg (by decide)]
              have xx := (y1.trans x1).trans x2
              exact ⟨ρ2, N2, x0.trans xx, r2, xx.pre _ _ aD, hf, hq.later xx⟩
            · cases hf
          · cases hf
  · cases hf
theorem se_comp {elt : Expr} {ifs : List Expr} {scope : Scope} {own : List (Str × Nat)} {ft : FT} (hc : X.calm = true) (hN : X.N.Nodup) (hi : SI X ct tg iter fi) (ok : BlkOk X.N X.env.scope scope own)
    (hg : ∀ s H C cl fp, SG (Cx.cb X scope s H C cl fp) ct (own.map (·.2)) tg g) (ht : ∀ s H C cl fp, STs (Cx.cb X scope s H C cl fp) ct ifs ft)
    (he : ∀ s H C cl fp, SE (Cx.cb X scope s H C cl fp) ct elt fe) (hs : ∀ x, foldedSetIterable iter X.env x = pure x := by intro _; rfl) : SE X ct (.ListComp elt [⟨tg, iter, ifs, 0⟩] scope pos) (fComp fi (own.map (·.2)) g ft fe) :=
  PE.imp (pe_lc hc hN hi ok hg ht he hs) fun _ _ _ w => lc_imp w
/-- name = [..] -/
theorem ss_setLc {i : Nat} {y : Str} {py : Pos} {elt : Expr} {ifs : List Expr} {scope : Scope} {own : List (Str × Nat)} {ft : FT} {spos : Pos} (hc : X.calm = true) (hN : X.N.Nodup) (hy : X.N[i]? = some y) (hyl : X.env.scope.names.lookup y = some .local)
    (hsw : swapsWith (.ListComp elt [⟨tg, iter, ifs, 0⟩] scope pos) (some (.Name y py)) spos.line X.env = pure true) (hi : SI X ct tg iter fi) (ok : BlkOk X.N X.env.scope scope own)
    (hg : ∀ s H C cl fp, SG (Cx.cb X scope s H C cl fp) ct (own.map (·.2)) tg g) (ht : ∀ s H C cl fp, STs (Cx.cb X scope s H C cl fp) ct ifs ft)
    (he : ∀ s H C cl fp, SE (Cx.cb X scope s H C cl fp) ct elt fe) (hs : ∀ x, foldedSetIterable iter X.env x = pure x := by intro _; rfl) :
    SS X ct (.Assign [.Name y py] (.ListComp elt [⟨tg, iter, ifs, 0⟩] scope pos) spos) (fSet i (fComp fi (own.map (·.2)) g ft fe)) :=
  PS.imp (ps_setLc hc hN hy hyl hsw hi ok hg ht he hs) fun D σ H ⟨ρ, M, env, r, hen, fl, M', hf, hq⟩ => by
    obtain ⟨d, M1, h1, hf⟩ := bnd_some hf
    cases hf
    exact lc_imp ⟨ρ, M, env, r, hen, d, _, h1, fun ρ1 H1 e1 r1 v dv => hq ρ1 H1 e1 r1 _ ((hen.mono e1).set i dv)⟩
end
end Zl

/-! text Z9 -/
namespace Zl
open PySem L2 PySem.Spec PyProof.Rows

/-! ## Defs -/
/-- a def of which no error leaves, called where no repr runs -/
structure FnG (P : Program) (w : World) (K : Frg) (mg : Str → Option Value) (base : Heap) (k : Nat) (f : Addr) (fd : FuncData) (ps : List Str) (sp : Sp) : Prop where
  len : ∀ vs H Q E, sp vs H Q E → vs.length = ps.length
  run : ∀ (A : Around) (outer : List Env) (s : Shared) (H : Hp) (args : Args) (us : List Value) (vs : List V) (Q : VK) (E : XK), Room k A → A.guards = some [] → Env0 P w K mg base A outer s H → BindsTo s fd args (ps.zip us) → Vals vs us → sp vs H Q E →
    codeAny (model P w) A (.call (.ref f) args) (CR CX0 outer P w H s Q E) s
theorem FnG.mono {P : Program} {w : World} {K : Frg} {mg : Str → Option Value} {base : Heap} {j k : Nat} {f : Addr} {fd : FuncData} {ps : List Str} {sp : Sp} (F : FnG P w K mg base j f fd ps sp) (h : j ≤ k) : FnG P w K mg base k f fd ps sp :=
  ⟨F.len, fun A outer s H args us vs Q E hr => F.run A outer s H args us vs Q E (hr.mono h)⟩
abbrev FF := List Dv → Mem → Rz
def spF (K : Frg) (ct : Ct) (F : FF) (n : Nat) : Sp := fun vs H Q _ => vs.length = n ∧ ∃ ρ M ds, Rl K ct ρ M H ∧ DVs K ρ H ds vs ∧ ∃ d M', F ds M = some (d, M') ∧ Aft K ct ρ H M' fun ρ' H' => ∀ v, DV K ρ' H' d v → Q v H'
/-- the def's value by its body; n names in all -/
def callF (n : Nat) (f : FS) : FF := fun ds M => match f (ds.map some ++ List.replicate (n - ds.length) none) M with
  | some (.rt d, M') => some (d, M')
  | some (.nx _, M') => some (.non, M')
  | _ => none
theorem enOk_start {K : Frg} {ρ : List Addr} {H : Hp} {N : List Str} {ds : List Dv} {vs : List V} (h : DVs K ρ H ds vs) : EnOk K ρ H (ds.map some ++ List.replicate (N.length - ds.length) none) (L2.start N vs) := by
  have hl := h.length
  refine ⟨by simp [L2.start, hl], fun i d q => ?_⟩
  by_cases hi : i < ds.length
  · rw [List.getElem?_append_left (by simpa using hi), List.getElem?_map] at q
    have e : ds[i]? = some d := by
      cases z : ds[i]? with
      | none => rw [z] at q; simp at q
      | some y => rw [z] at q; simp at q; rw [q]
    obtain ⟨v, h1, h2⟩ := h.get e
    refine ⟨v, ?_, h2⟩
    unfold L2.start
    rw [List.getElem?_append_left (by rw [List.length_map, ← hl]; exact hi), List.getElem?_map, h1]; rfl
  · rw [List.getElem?_append_right (by simpa using hi), List.getElem?_replicate] at q
    split at q <;> cases q
section
variable {P : Program} {w : World} {K : Frg} {mg : Str → Option Value} {base : Heap} {ct : Ct}
/-- THE RULE: a def by its body -/
theorem fn_sim {x qual : Str} {st : Stmt} {f : Addr} {fd : FuncData} {N ps : List Str} {k : Nat} {b : FS} (F : Fun K x qual st f fd) (S : FnScope N ps (defScope st))
    (hbody : ∀ (cdv : Value) (A : Around) (outer : List Env) (s : Shared) (H : Hp) (E : XK), Room k (A.deeper (envOfC qual (defScope st) s.heap.objs.size f cdv)) → (A.deeper (envOfC qual (defScope st) s.heap.objs.size f cdv)).guards = some [] →
      SSs (cxOf CX0 P w K mg base N qual (defScope st) f cdv A outer s H E).nox ct (defBody st) b) : FnG P w K mg base (k + 1) f fd ps (spF K ct (callF N.length b) ps.length) := by
  obtain ⟨oc, od, kV, doc, pm, an, cdv, ct', osl, rfl, lk, hcd⟩ := F.ex
  refine ⟨fun vs H Q E h => h.1, fun A outer s H args us vs Q E hr hgd e0 hb r hsp => ?_⟩
  obtain ⟨hl, ρ, M, ds, rl, dv, d, M', hf, hq⟩ := hsp
  have KX : K.In s.heap := e0.mod.kin.keeps fun b o e => (e0.bs b o e).1
  have lim : s.heap.NoLimit := e0.mod.nolimit.keeps fun b o e => (e0.bs b o e).1
  have hkind : ∀ y ∈ ps.zip us, (defScope st).names.lookup y.1 = some .local ∨ ((defScope st).names.lookup y.1 = some .cell ∧ ((cellsFrom (s.heap.objs.size + 1) (defScope st).names []).lookup y.1).isSome = true) := by
    rintro ⟨n, v⟩ hy
    rcases S.par n (List.of_mem_zip hy).1 with z | z
    · exact .inl z
    · exact .inr ⟨z, PySem.W.cellsFrom_some _ _ _ (.inl z)⟩
  refine codeAny_call_function hr.depth (KX _ _ lk) rfl S.co S.gen rfl (PySem.W.codeRec_of KX hcd) (hb _ _ _ _ ?_)
  refine wpAny_newFunctionEnv_cells S.kind hkind fun env hen s1 x1 => ?_
  subst hen
  refine ⟨lim.keeps x1.toInCall.keep, codeAny_func ?_⟩
  have B := hbody cdv A outer s H E (hr.deeper _) hgd
  have I : Inv (cxOf CX0 P w K mg base N qual (defScope st) f cdv A outer s H E) [] (L2.start N vs) H s1 := inv_start S hr.hd e0 hl r x1
  unfold callF at hf
  have hw : ∃ fl, b (ds.map some ++ List.replicate (N.length - ds.length) none) M = some (fl, M') ∧ ((fl = .rt d) ∨ ∃ e, fl = .nx e ∧ d = .non) := by
    split at hf
    · rename_i z
      cases hf
      exact ⟨_, z, .inl rfl⟩
    · rename_i z
      cases hf
      exact ⟨_, z, .inr ⟨_, rfl, rfl⟩⟩
    · cases hf
  obtain ⟨fl, hb1, hfl⟩ := hw
  have Z := (PSs.nox B).run [] s1 (L2.start N vs) H { nx := fun _ H' => Q .non H', rt := Q } I ⟨ρ, M, _, rl, enOk_start dv, fl, M', hb1, fun ρ' H' e' r' => by
    rcases hfl with rfl | ⟨e, rfl, rfl⟩
    · exact fun v hv => hq ρ' H' e' r' v hv
    · exact fun σ _ => hq ρ' H' e' r' _ .non⟩
  refine wpAny_mono Z (fun fl s' hs => ?_) fun e s' hs => hs
  have fin : ∀ {σ' : L2.St} {H' : Hp} {v : V} {u : Value}, Inv (cxOf CX0 P w K mg base N qual (defScope st) f cdv A outer s H E) [] σ' H' s' → RelV v u → Q v H' → CE outer P w H s Q u s' :=
    fun {σ' H' v u} J rv q => ⟨v, H', J.os, J.bare, J.base, J.hok, rv, q⟩
  cases fl with
  | ret u =>
    obtain ⟨v, σ', H', J, rv, q⟩ := hs
    exact fin J rv q
  | next =>
    obtain ⟨σ', H', J, q⟩ := hs
    exact fin (v := V.non) (u := Value.none) J rfl q
  | brk => exact False.elim hs.choose_spec.choose_spec.2
  | cont => exact False.elim hs.choose_spec.choose_spec.2
end
section
variable {X : Cx} {ct : Ct} {k : Nat} {f C : Addr} {fd : FuncData} {ps : List Str} {F : FF} {x m : Str} {p pos apos : Pos} {e o v' : Expr} {es : List Expr} {fr : FA} {fo fv : FE} {c : Nat}
abbrev SF (X : Cx) (ct : Ct) (k : Nat) (f : Addr) (fd : FuncData) (ps : List Str) (F : FF) : Prop := FnG X.prog X.w X.K X.mg X.base k f fd ps (spF X.K ct F ps.length)
/-- the callee runs -/
theorem run_fnG {pins : List (Addr × Obj)} {σ : L2.St} {H : Hp} {s : Shared} {Q : VK} {us us' : List Value} {kw : List (Str × Value)} {vs : List V} {sp : Sp} (G : FnG X.prog X.w X.K X.mg X.base k f fd ps sp) (hr : Room k X.A) (hgd : X.A.guards = some [])
    (I : Inv X pins σ H s) (bt : BindsTo s fd ⟨us, kw⟩ (ps.zip us')) (r : Vals vs us') (h : sp vs H Q E0) : wpAny (model X.prog X.w) X.A (call (.ref f) us kw) (EP X pins σ Q) X.xe s := by
  refine wpAny_call (codeAny_mono (G.run X.A X.stack s H ⟨us, kw⟩ us' vs Q E0 hr hgd I.env0 bt r h) fun z s' hq => ?_)
  match z, hq with
  | .ok (.ret u), hq => exact I.after hq
theorem spF_use {ρ ρ1 : List Addr} {M1 M' : Mem} {H H1 : Hp} {d : Dv} {ds : List Dv} {vs : List V} {n : Nat} {Q : VK} (hn : ds.length = n) (e1 : Ext X.K ρ H ρ1 H1) (r1 : Rl X.K ct ρ1 M1 H1) (dvs : DVs X.K ρ1 H1 ds vs) (hf : F ds M1 = some (d, M'))
    (hq : Aft X.K ct ρ H M' fun ρ' H' => ∀ v, DV X.K ρ' H' d v → Q v H') : spF X.K ct F n vs H1 Q E0 :=
  ⟨by rw [← dvs.length]; exact hn, ρ1, M1, ds, r1, dvs, d, M', hf, hq.later e1⟩
/-- f(e, ..) -/
def fCall (n : Nat) (F : FF) (fr : FA) : FE := fun env M => bnd (fr env M) fun ds M1 => if ds.length = n then F ds M1 else none
theorem se_call (G : SF X ct k f fd ps F) (hr : Room k X.A) (hgd : X.A.guards = some []) (hg : Gl X x) (hm : X.mg x = some (.ref f)) (hk : PySem.W.keepIn X.K (.ref f) = true) (hb : Binds X.K fd ps []) (ha : SA X ct (e :: es) fr)
    (hdb : (x == ("__debug__" : Str)) = false := by decide) (he : starEach (e :: es) X.env = (false, eval e X.env) :: starEach es X.env := by rfl)
    (hpl : (backTo pos (starEach es X.env)).any (·.1) = false := by rfl) : SE X ct (.Call (.Name x p) (e :: es) [] pos) (fCall ps.length F fr) := by
  refine ⟨fun pins s σ H Q I w => ?_⟩
  obtain ⟨ρ, M, env, r, hen, d, M', hf, hq⟩ := w
  obtain ⟨ds, M1, h1, hf⟩ := bnd_some hf
  split at hf
  · rename_i hn
    refine wpAny_Call_Name_kw (ld_glob I hg hm ?_ hdb)
    refine PySem.W.callWith_K (h₀ := X.base) I.ok.mod.kin hk (thn (ha.run pos pins s σ H (fun vs H1 => ∃ ρ1, Ext X.K ρ H ρ1 H1 ∧ Rl X.K ct ρ1 M1 H1 ∧ DVs X.K ρ1 H1 ds vs) I ⟨ρ, M, env, r, hen, ds, M1, h1, fun ρ1 H1 e1 r1 vs dvs => ⟨ρ1, e1, r1, dvs⟩⟩) fun us s1 z => ?_) he hpl
    obtain ⟨vs, H1, I1, rv, ρ1, e1, r1, dvs⟩ := z
    refine ⟨I1.kIn, run_fnG G hr hgd I1 (hb s1 us I1.kIn (by rw [List.append_nil, ← rv.length, ← dvs.length]; exact hn)) (by rw [List.append_nil]; exact rv) (spF_use hn e1 r1 dvs hf hq)⟩
  · cases hf
theorem se_call0 (G : SF X ct k f fd ps F) (hr : Room k X.A) (hgd : X.A.guards = some []) (hg : Gl X x) (hm : X.mg x = some (.ref f)) (hk : PySem.W.keepIn X.K (.ref f) = true) (hb : Binds X.K fd ps [])
    (hdb : (x == ("__debug__" : Str)) = false := by decide) : SE X ct (.Call (.Name x p) [] [] pos) (fCall ps.length F fNil) := by
  refine ⟨fun pins s σ H Q I w => ?_⟩
  obtain ⟨ρ, M, env, r, hen, d, M', hf, hq⟩ := w
  obtain ⟨ds, M1, h1, hf⟩ := bnd_some hf
  cases h1
  split at hf
  · rename_i hn
    refine wpAny_Call_Name_kw (ld_glob I hg hm ?_ hdb)
    exact PySem.W.callWith_K0 I.kIn hk (run_fnG (us := []) (us' := []) (vs := []) G hr hgd I (hb s [] I.kIn (by simpa using hn)) .nil (spF_use hn .refl r .nil hf hq))
  · cases hf
/-! ### keywords -/
abbrev SK (X : Cx) (ct : Ct) (kws : List Keyword) (f : FA) : Prop := PK X kws (tA X.K ct f)
theorem PK.imp {kws : List Keyword} {t t' : TA} (h : PK X kws t) (q : ∀ σ H Q, t' σ H Q → t σ H Q) : PK X kws t' := ⟨fun pos pins s σ H Q I w => h.run pos pins s σ H Q I (q σ H Q w)⟩
theorem sk_nil : SK X ct [] fNil := PK.imp pk_nil fun σ H Q ⟨ρ, M, env, r, he, d, M', hf, hq⟩ => by
  cases hf
  exact hq ρ H .refl r _ .nil
theorem sk_cons {kws : List Keyword} {nm : Option Str} {kpos : Pos} (h : SE X ct e fo) (q : SK X ct kws fr) : SK X ct (⟨nm, e, kpos⟩ :: kws) (fCons fo fr) :=
  PK.imp (pk_cons h q) fun σ H Q ⟨ρ, M, env, r, he, d, M', hf, hq⟩ => by
    obtain ⟨x, M1, h1, hf⟩ := bnd_some hf
    obtain ⟨ys, M2, h2, hf⟩ := bnd_some hf
    cases hf
    exact ⟨ρ, M, env, r, he, x, M1, h1, fun ρ1 H1 e1 r1 v dv => ⟨ρ1, M1, env, r1, he.mono e1, ys, _, h2, fun ρ2 H2 e2 r2 vs dvs => hq ρ2 H2 (e1.trans e2) r2 _ (.cons (dv.mono e2) dvs)⟩⟩
def pick {α : Type} (is : List Nat) (xs : List α) : List α := is.filterMap fun i => xs[i]?
theorem pick_vals {vs : List V} {us : List Value} (h : Vals vs us) : ∀ is : List Nat, Vals (pick is vs) (pick is us)
  | [] => .nil
  | i :: is => by
    unfold pick
    rw [List.filterMap_cons, List.filterMap_cons]
    cases q : vs[i]? with
    | none => rw [h.none_of q]; exact pick_vals h is
    | some v =>
      obtain ⟨u, h1, h2⟩ := h.get q
      rw [h1]; exact .cons h2 (pick_vals h is)
theorem pick_dvs {K : Frg} {ρ : List Addr} {H : Hp} {ds : List Dv} {vs : List V} (h : DVs K ρ H ds vs) : ∀ is : List Nat, DVs K ρ H (pick is ds) (pick is vs)
  | [] => .nil
  | i :: is => by
    unfold pick
    rw [List.filterMap_cons, List.filterMap_cons]
    cases q : ds[i]? with
    | none =>
      have z : vs[i]? = none := List.getElem?_eq_none_iff.mpr (by rw [← h.length]; exact List.getElem?_eq_none_iff.mp q)
      rw [z]; exact pick_dvs h is
    | some v =>
      obtain ⟨u, h1, h2⟩ := h.get q
      rw [h1]; exact .cons h2 (pick_dvs h is)
/-- how a call by keywords alone binds: parameter j gets the keyword is[j] -/
def KwB (K : Frg) (fd : FuncData) (ps ks : List Str) (is : List Nat) : Prop := ∀ (s : Shared) (ws : List Value), K.In s.heap → ws.length = ks.length → BindsTo s fd ⟨[], ks.zip ws⟩ (ps.zip (pick is ws))
def fCallK (n nk : Nat) (is : List Nat) (F : FF) (fr : FA) : FE := fun env M => bnd (fr env M) fun ds M1 => if ds.length = nk ∧ (pick is ds).length = n then F (pick is ds) M1 else none
theorem se_callK {kws : List Keyword} {ks : List Str} {is : List Nat} (G : SF X ct k f fd ps F) (hr : Room k X.A) (hgd : X.A.guards = some []) (hg : Gl X x) (hm : X.mg x = some (.ref f)) (hk : PySem.W.keepIn X.K (.ref f) = true) (hb : KwB X.K fd ps ks is) (ha : SK X ct kws fr)
    (hall : (backToKw pos (keywordEach kws X.env)).all (·.1.isSome) = true := by rfl) (hks : (backToKw pos (keywordEach kws X.env)).filterMap (·.1) = ks := by rfl) (hdb : (x == ("__debug__" : Str)) = false := by decide)
    (hpl : ((backTo pos (starEach [] X.env)).any (·.1) || (backToKw pos (keywordEach kws X.env)).any (·.1.isNone)) = false := by rfl) : SE X ct (.Call (.Name x p) [] kws pos) (fCallK ps.length ks.length is F fr) := by
  refine ⟨fun pins s σ H Q I w => ?_⟩
  obtain ⟨ρ, M, env, r, hen, d, M', hf, hq⟩ := w
  obtain ⟨ds, M1, h1, hf⟩ := bnd_some hf
  split at hf
  · rename_i hn
    refine wpAny_Call_Name_kw (ld_glob I hg hm ?_ hdb)
    refine PySem.W.callWith_KW0 (h₀ := X.base) I.ok.mod.kin hk hall ?_ hpl
    refine thn (ha.run pos pins s σ H (fun vs H1 => ∃ ρ1, Ext X.K ρ H ρ1 H1 ∧ Rl X.K ct ρ1 M1 H1 ∧ DVs X.K ρ1 H1 ds vs) I ⟨ρ, M, env, r, hen, ds, M1, h1, fun ρ1 H1 e1 r1 vs dvs => ⟨ρ1, e1, r1, dvs⟩⟩) fun us s1 z => ?_
    obtain ⟨vs, H1, I1, rv, ρ1, e1, r1, dvs⟩ := z
    rw [hks]
    exact ⟨I1.kIn, run_fnG G hr hgd I1 (hb s1 us I1.kIn (by rw [← rv.length, ← dvs.length]; exact hn.1)) (pick_vals rv is) (spF_use hn.2 e1 r1 (pick_dvs dvs is) hf hq)⟩
  · cases hf
/-! ## Instances -/
def putD (f : Str) (v : Dv) : List (Str × Dv) → List (Str × Dv)
  | [] => [(f, v)]
  | (g, x) :: r => if g = f then (g, v) :: r else (g, x) :: putD f v r
section
variable {K : Frg} {ρ : List Addr} {H : Hp}
theorem FV.nil : FV K ρ H [] [] := ⟨rfl, .nil⟩
theorem FV.length {fs : List (Str × Dv)} {vfs : List (Str × V)} (h : FV K ρ H fs vfs) : fs.length = vfs.length := by
  have := congrArg List.length h.1
  simpa using this
theorem FV.split {f : Str} {d : Dv} {fs : List (Str × Dv)} {vfs : List (Str × V)} (h : FV K ρ H ((f, d) :: fs) vfs) : ∃ v r, vfs = (f, v) :: r ∧ DV K ρ H d v ∧ FV K ρ H fs r := by
  obtain ⟨h1, h2⟩ := h
  cases vfs with
  | nil => cases h1
  | cons q r =>
    obtain ⟨g, v⟩ := q
    simp only [List.map_cons, List.cons.injEq] at h1
    obtain ⟨rfl, h1⟩ := h1
    cases h2 with
    | cons d1 dr => exact ⟨v, r, rfl, d1, h1, dr⟩
theorem FV.look : ∀ {fs : List (Str × Dv)} {vfs : List (Str × V)} {f : Str}, FV K ρ H fs vfs → (∀ d, fs.lookup f = some d → ∃ v, vfs.lookup f = some v ∧ DV K ρ H d v) ∧ (fs.lookup f = none → vfs.lookup f = none)
  | [], vfs, f, h => by
    obtain ⟨h1, _⟩ := h
    cases vfs with
    | nil => exact ⟨fun d q => (by cases q), fun _ => rfl⟩
    | cons _ _ => cases h1
  | (g, d) :: fs, vfs, f, h => by
    obtain ⟨v, r, rfl, h1, h2⟩ := h.split
    obtain ⟨i1, i2⟩ := FV.look (f := f) h2
    rw [List.lookup_cons, List.lookup_cons]
    cases hb : f == g with
    | true => exact ⟨fun d' q => ⟨v, rfl, (by cases q; exact h1)⟩, fun q => (by cases q)⟩
    | false => exact ⟨i1, i2⟩
theorem FV.put {f : Str} {d : Dv} {v : V} (hd : DV K ρ H d v) : ∀ {fs : List (Str × Dv)} {vfs : List (Str × V)}, FV K ρ H fs vfs → FV K ρ H (putD f d fs) (putF f v vfs)
  | [], vfs, h => by
    obtain ⟨h1, _⟩ := h
    cases vfs with
    | nil => exact ⟨rfl, .cons hd .nil⟩
    | cons _ _ => cases h1
  | (g, d') :: fs, vfs, h => by
    obtain ⟨u, r, rfl, h1, h2⟩ := h.split
    unfold putD putF
    by_cases hg : g = f
    · rw [if_pos hg, if_pos hg]
      exact ⟨by simp [h2.1], .cons hd h2.2⟩
    · rw [if_neg hg, if_neg hg]
      obtain ⟨i1, i2⟩ := FV.put hd h2
      exact ⟨by simp [i1], .cons h1 i2⟩
end
theorem Rl.ins {K : Frg} {ρ : List Addr} {M : Mem} {H : Hp} (r : Rl K ct ρ M H) {n : Nat} {fs : List (Str × Dv)} (hm : M[n]? = some (.ins c fs)) {v : V} (hv : DV K ρ H (.loc n) v) :
    ∃ a C dx vfs, v = .ref a ∧ ρ[n]? = some a ∧ ct c = some C ∧ H a = some (.ins C dx vfs) ∧ FV K ρ H fs vfs := by
  obtain ⟨a, h1, C, dx, vfs, h2, h3, h4⟩ := r.ok n _ hm
  cases hv with
  | loc h => rw [h] at h1; cases h1; exact ⟨_, C, dx, vfs, rfl, h, h2, h3, h4⟩
/-- o.f -/
def fFld (c : Nat) (f : Str) (fo : FE) : FE := fun env M => bnd (fo env M) fun d M1 => match d with
  | .loc n => match M1[n]? with
    | some (.ins c' fs) => if c' = c then match fs.lookup f with
        | some x => some (x, M1)
        | none => none
      else none
    | _ => none
  | _ => none
theorem se_fld {fld : Str} (ho : SE X ct o fo) (hc : ct c = some C) (cl : Cls X.K C) (na : NoAttr X.K C fld) (hb : attributeBase o fld X.env (eval o X.env) = eval o X.env := by rfl) : SE X ct (.Attribute o fld pos) (fFld c fld fo) :=
  PE.imp (pe_fld ho hb) fun σ H Q ⟨ρ, M, env, r, he, d, M', hf, hq⟩ => by
    obtain ⟨x, M1, h1, hf⟩ := bnd_some hf
    refine ⟨ρ, M, env, r, he, x, M1, h1, fun ρ1 H1 e1 r1 v dv => ?_⟩
    split at hf
    · split at hf
      · rename_i hm
        split at hf
        · rename_i hcc
          split at hf
          · rename_i y hy
            cases hf
            subst hcc
            obtain ⟨a, C', dx, vfs, rfl, a1, a2, a3, a4⟩ := r1.ins hm dv
            rw [hc] at a2; cases a2
            obtain ⟨u, u1, u2⟩ := a4.look.1 _ hy
            exact ⟨a, C, dx, vfs, u, rfl, a3, cl, na, u1, hq ρ1 H1 e1 r1 _ u2⟩
          · cases hf
        · cases hf
      · cases hf
    · cases hf
/-- o.f = e -/
def fPut (c : Nat) (f : Str) (fo fv : FE) : FS := fun env M => bnd (fv env M) fun y M1 => bnd (fo env M1) fun d M2 => match d with
  | .loc n => match M2[n]? with
    | some (.ins c' fs) => if c' = c ∧ fs.length < 1000 then some (.nx env, M2.set n (.ins c (putD f y fs))) else none
    | _ => none
  | _ => none
theorem ss_fld {fld : Str} {pos' : Pos} (ho : SE X ct o fo) (hv : SE X ct v' fv) (hc : ct c = some C) (cl : Cls X.K C) (na : NoAttr X.K C fld) (hs : swapsWith v' (some (.Attribute o fld pos')) pos.line X.env = pure false := by rfl) :
    SS X ct (.Assign [.Attribute o fld pos'] v' pos) (fPut c fld fo fv) :=
  PS.imp (ps_fld ho hv hs) fun D σ H ⟨ρ, M, env, r, he, fl, M', hf, hq⟩ => by
    obtain ⟨y, M1, h1, hf⟩ := bnd_some hf
    obtain ⟨d, M2, h2, hf⟩ := bnd_some hf
    refine ⟨ρ, M, env, r, he, y, M1, h1, fun ρ1 H1 e1 r1 v dv => ⟨ρ1, M1, env, r1, he.mono e1, d, M2, h2, fun ρ2 H2 e2 r2 u du => ?_⟩⟩
    split at hf
    · split at hf
      · rename_i hm
        split at hf
        · rename_i hcc
          cases hf
          obtain ⟨hcc, hl⟩ := hcc
          subst hcc
          obtain ⟨a, C', dx, vfs, rfl, a1, a2, a3, a4⟩ := r2.ins hm du
          rw [hc] at a2; cases a2
          have xs : Ext X.K ρ2 H2 ρ2 (upd H2 a (.ins C dx (putF fld v vfs))) := Ext.soft (fun _ _ z => z) (fun _ q => by rw [a3] at q; cases q) fun _ _ q => by rw [a3] at q; cases q
          obtain ⟨r3, e3⟩ := r2.put (o := .ins _ (putD fld y _)) (o' := .ins C dx (putF fld v vfs)) a1 ⟨C, dx, _, hc, upd_same, (a4.put (dv.mono e2)).mono xs⟩
          exact ⟨a, C, dx, vfs, rfl, a3, cl, na, by rw [← a4.length]; exact hl, hq ρ2 _ ((e1.trans e2).trans e3) r3 σ (((he.mono e1).mono e2).mono e3)⟩
        · cases hf
      · cases hf
    · cases hf
/-- o.m(e, ..) of an own class -/
def isIns (c : Nat) (m : Str) (d : Dv) (M : Mem) : Bool :=
  match d with
  | .loc n => match M[n]? with
    | some (.ins c' fs) => c' == c && (fs.lookup m).isNone
    | _ => false
  | _ => false
def fMeth (c : Nat) (m : Str) (np : Nat) (F : FF) (fo : FE) (fr : FA) : FE := fun env M => bnd (fo env M) fun d M1 => if isIns c m d M1 then bnd (fr env M1) fun ds M2 => if (d :: ds).length = np then F (d :: ds) M2 else none else none
theorem isIns_ok {K : Frg} {ρ : List Addr} {M : Mem} {H : Hp} {d : Dv} {v : V} (r : Rl K ct ρ M H) (hv : DV K ρ H d v) (hc : ct c = some C) (h : isIns c m d M = true) : ∃ a dx vfs, v = .ref a ∧ H a = some (.ins C dx vfs) ∧ vfs.lookup m = none := by
  unfold isIns at h
  split at h
  · split at h
    · rename_i hm
      rw [Bool.and_eq_true] at h
      have e := eq_of_beq h.1
      subst e
      obtain ⟨a, C', dx, vfs, rfl, a1, a2, a3, a4⟩ := r.ins hm hv
      rw [hc] at a2; cases a2
      exact ⟨a, dx, vfs, rfl, a3, a4.look.2 (Option.isNone_iff_eq_none.mp h.2)⟩
    · cases h
  · cases h
theorem se_meth {pl : Sem Bool} (ho : SE X ct o fo) (hc : ct c = some C) (cl : Cls X.K C) (hm : Meth X.K C m f) (G : SF X ct k f fd ps F) (hr : Room k X.A) (hgd : X.A.guards = some []) (hb : Binds X.K fd ps []) (ha : SA X ct (e :: es) fr)
    (hst : starEach (e :: es) X.env = (false, eval e X.env) :: starEach es X.env := by rfl) (hpl : (backTo pos (starEach es X.env)).any (·.1) = false := by rfl)
    (ht : eval (.Call (.Attribute o m apos) (e :: es) [] pos) X.env = (do
      let ov ← eval o X.env
      standAt apos.atName
      let (f, first) ← holding [ov] (getMethod ov m pl)
      callWith pos f first (backTo pos (starEach (e :: es) X.env)) (backToKw pos (keywordEach [] X.env))) := by rfl) :
    SE X ct (.Call (.Attribute o m apos) (e :: es) [] pos) (fMeth c m ps.length F fo fr) := by
  refine ⟨fun pins s σ H Q I w => ?_⟩
  obtain ⟨ρ, M, env, r, hen, d, M', hf, hq⟩ := w
  obtain ⟨y, M1, h1, hf⟩ := bnd_some hf
  split at hf
  · rename_i hi
    obtain ⟨ds, M2, h2, hf⟩ := bnd_some hf
    split at hf
    · rename_i hn
      refine PySem.W.methodCall_KW (pl := pl) (thn (ho.run pins s σ H (fun v H1 => ∃ ρ1, Ext X.K ρ H ρ1 H1 ∧ Rl X.K ct ρ1 M1 H1 ∧ DV X.K ρ1 H1 y v) I ⟨ρ, M, env, r, hen, y, M1, h1, fun ρ1 H1 e1 r1 v dv => ⟨ρ1, e1, r1, dv⟩⟩) fun u s1 z => ?_) ht
      obtain ⟨v, H1, I1, rv, ρ1, e1, r1, dv⟩ := z
      obtain ⟨a, dx, vfs, rfl, a3, a4⟩ := isIns_ok r1 dv hc hi
      obtain rfl : u = Value.ref a := rv
      refine getmeth_ok I1 a3 cl hm a4 ?_
      refine PySem.W.callWith_K (first := [.ref a]) (h₀ := X.base) I.ok.mod.kin hm.kp (thn (ha.run pos pins s1 σ H1 (fun vs H2 => ∃ ρ2, Ext X.K ρ1 H1 ρ2 H2 ∧ Rl X.K ct ρ2 M2 H2 ∧ DVs X.K ρ2 H2 ds vs) I1 ⟨ρ1, M1, env, r1, hen.mono e1, ds, M2, h2, fun ρ2 H2 e2 r2 vs dvs => ⟨ρ2, e2, r2, dvs⟩⟩) fun us s2 z => ?_) hst hpl
      obtain ⟨vs, H2, I2, rvs, ρ2, e2, r2, dvs⟩ := z
      have D2 : DVs X.K ρ2 H2 (y :: ds) (.ref a :: vs) := .cons (dv.mono e2) dvs
      exact ⟨I2.kIn, run_fnG (us := .ref a :: us) (us' := .ref a :: us) G hr hgd I2 (by
        have := hb s2 (.ref a :: us) I2.kIn (by rw [List.append_nil, ← hn, D2.length]; exact congrArg (· + 1) rvs.length.symm)
        rwa [List.append_nil] at this) (.cons (a := V.ref a) rfl rvs) (spF_use hn (e1.trans e2) r2 D2 hf hq)⟩
    · cases hf
  · cases hf
theorem se_meth0 {pl : Sem Bool} (ho : SE X ct o fo) (hc : ct c = some C) (cl : Cls X.K C) (hm : Meth X.K C m f) (G : SF X ct k f fd ps F) (hr : Room k X.A) (hgd : X.A.guards = some []) (hb : Binds X.K fd ps [])
    (ht : eval (.Call (.Attribute o m apos) [] [] pos) X.env = (do
      let ov ← eval o X.env
      standAt apos.atName
      let (f, first) ← holding [ov] (getMethod ov m pl)
      callWith pos f first (backTo pos (starEach [] X.env)) (backToKw pos (keywordEach [] X.env))) := by rfl) :
    SE X ct (.Call (.Attribute o m apos) [] [] pos) (fMeth c m ps.length F fo fNil) := by
  refine ⟨fun pins s σ H Q I w => ?_⟩
  obtain ⟨ρ, M, env, r, hen, d, M', hf, hq⟩ := w
  obtain ⟨y, M1, h1, hf⟩ := bnd_some hf
  split at hf
  · rename_i hi
    obtain ⟨ds, M2, h2, hf⟩ := bnd_some hf
    cases h2
    split at hf
    · rename_i hn
      refine PySem.W.methodCall_KW (pl := pl) (thn (ho.run pins s σ H (fun v H1 => ∃ ρ1, Ext X.K ρ H ρ1 H1 ∧ Rl X.K ct ρ1 _ H1 ∧ DV X.K ρ1 H1 y v) I ⟨ρ, M, env, r, hen, y, _, h1, fun ρ1 H1 e1 r1 v dv => ⟨ρ1, e1, r1, dv⟩⟩) fun u s1 z => ?_) ht
      obtain ⟨v, H1, I1, rv, ρ1, e1, r1, dv⟩ := z
      obtain ⟨a, dx, vfs, rfl, a3, a4⟩ := isIns_ok r1 dv hc hi
      obtain rfl : u = Value.ref a := rv
      refine getmeth_ok I1 a3 cl hm a4 ?_
      exact PySem.W.callWith_K0 (first := [.ref a]) I1.kIn hm.kp (run_fnG (us := [.ref a]) (us' := [.ref a]) G hr hgd I1 (by
        have := hb s1 [.ref a] I1.kIn (by simpa using hn)
        rwa [List.append_nil] at this) (.cons (a := V.ref a) rfl .nil) (spF_use hn e1 r1 (.cons dv .nil) hf hq))
    · cases hf
  · cases hf
/-- C(e, ..) -/
def fMake (c : Nat) (np : Nat) (F : FF) (fr : FA) : FE := fun env M => bnd (fr env M) fun ds M1 => if ds.length + 1 = np then bnd (F (.loc M1.length :: ds) (M1 ++ [.ins c []])) fun d M2 => match d with
    | .non => some (.loc M1.length, M2)
    | _ => none
  else none
theorem se_make (M0 : Mk X.K C f) (hc : ct c = some C) (G : SF X ct k f fd ps F) (hr : Room (k + 1) X.A) (hgd : X.A.guards = some []) (hg : Gl X x) (hm : X.mg x = some (.ref C)) (hb : Binds X.K fd ps []) (ha : SA X ct (e :: es) fr)
    (hdb : (x == ("__debug__" : Str)) = false := by decide) (he : starEach (e :: es) X.env = (false, eval e X.env) :: starEach es X.env := by rfl) (hpl : (backTo pos (starEach es X.env)).any (·.1) = false := by rfl) :
    SE X ct (.Call (.Name x p) (e :: es) [] pos) (fMake c ps.length F fr) := by
  refine ⟨fun pins s σ H Q I w => ?_⟩
  obtain ⟨ρ, M, env, r, hen, d, M', hf, hq⟩ := w
  obtain ⟨ds, M1, h1, hf⟩ := bnd_some hf
  split at hf
  · rename_i hn
    obtain ⟨d0, M2, h2, hf⟩ := bnd_some hf
    split at hf
    · cases hf
      refine wpAny_Call_Name_kw (ld_glob I hg hm ?_ hdb)
      refine PySem.W.callWith_K (h₀ := X.base) I.ok.mod.kin M0.kp (thn (ha.run pos pins s σ H (fun vs H1 => ∃ ρ1, Ext X.K ρ H ρ1 H1 ∧ Rl X.K ct ρ1 M1 H1 ∧ DVs X.K ρ1 H1 ds vs) I ⟨ρ, M, env, r, hen, ds, M1, h1, fun ρ1 H1 e1 r1 vs dvs => ⟨ρ1, e1, r1, dvs⟩⟩) fun us s1 z => ?_) he hpl
      obtain ⟨vs, H1, I1, rv, ρ1, e1, r1, dvs⟩ := z
      refine ⟨I1.kIn, ?_⟩
      have n1 : H1 s1.heap.objs.size = none := I1.hok.fresh (Nat.le_refl _)
      have n2 : H1 (s1.heap.objs.size + 1) = none := I1.hok.fresh (Nat.le_succ _)
      have ne : s1.heap.objs.size + 1 ≠ s1.heap.objs.size := Nat.succ_ne_self _
      have I2 := Inv.made (C := C) I1
      have rA := r1.tup n1 (.own (s1.heap.objs.size + 1))
      have n3 : upd H1 s1.heap.objs.size (.own (s1.heap.objs.size + 1)) (s1.heap.objs.size + 1) = none := by rw [upd_ne ne]; exact n2
      obtain ⟨rB, xB, aB⟩ := rA.new (o := .ins c []) (o' := .ins C s1.heap.objs.size []) n3 ⟨C, _, [], hc, upd_same, FV.nil⟩
      have xx := (Ext.fresh n1).trans xB
      have D2 : DVs X.K (ρ1 ++ [s1.heap.objs.size + 1]) _ (.loc M1.length :: ds) (.ref (s1.heap.objs.size + 1) :: vs) := .cons (.loc aB) (dvs.mono xx)
      have len2 : (Value.ref (s1.heap.objs.size + 1) :: us).length = ps.length := by rw [← hn, dvs.length, ← rv.length.symm]; rfl
      have bt := hb { s1 with heap := (s1.heap.push PySem.W.emptyDict).push (PySem.W.instObj C s1.heap.objs.size) } (.ref (s1.heap.objs.size + 1) :: us) I2.kIn (by rw [List.append_nil]; exact len2)
      rw [List.append_nil] at bt
      refine wpAny_call (make_map (f := f) I1.kIn M0.makes M0.init (beq_iff_eq.mp M0.fn) (codeAny_mono (G.run _ X.stack _ _ ⟨.ref (s1.heap.objs.size + 1) :: us, []⟩ (.ref (s1.heap.objs.size + 1) :: us) (.ref (s1.heap.objs.size + 1) :: vs) (fun v H2 => v = .non ∧ Q (.ref (s1.heap.objs.size + 1)) H2) E0 (hr.make C us [])
        hgd (I2.env0.make C us []) bt (.cons rfl rv) ?_) fun z s' hz => ?_))
      · refine ⟨by rw [← D2.length]; exact hn, _, _, _, rB, D2, _, _, h2, fun ρ3 H3 e3 r3 v hv => ?_⟩
        cases hv
        exact ⟨rfl, hq ρ3 H3 ((e1.trans xx).trans e3) r3 _ (.loc (e3.pre _ _ aB))⟩
      · match z, hz with
        | .ok (.ret u), hz =>
          obtain ⟨v, H', I3, rv3, ev, q3⟩ := I2.after hz
          subst ev
          exact ⟨rv3, ⟨V.ref (s1.heap.objs.size + 1), H', I3, rfl, q3⟩⟩
    · cases hf
  · cases hf
end
end Zl

/-! text Z10 -/
namespace Zl
open PySem L2 PySem.Spec PyProof.Rows

/-- the script, all ints -/
theorem dvs_ints {K : Frg} {ρ : List Addr} {H : Hp} : ∀ ns : List Int, DVs K ρ H (ns.map Dv.int) (ns.map V.int)
  | [] => .nil
  | n :: r => .cons (.int n) (dvs_ints r)
/-- the law's call from the def's mirror -/
theorem law_end {P : Program} {w : World} {K : Frg} {mg mb : Str → Option Value} {ct : Ct} {k : Nat} {fa a : Addr} {fd : FuncData} {x : Str} {F : FF} {s₁ : Shared} {us : List Value} {ns : List Int}
    (KX : K.In s₁.heap) (hns : s₁.heap.Ns mainGlobals mg) (hb : s₁.heap.Ns builtinsNs mb) (hbb : ∀ x : Str, x ≠ "__name__" → mb x = bootBuiltins x) (hlim : s₁.heap.NoLimit) (hg : s₁.gens = #[])
    (ha : s₁.heap.get? a = some { cls := .type "list", data := .seq us.toArray }) (hi : IntsAre us ns) (hl : ns.length ≤ sizeLine) (hr : Room k callerA)
    (G : ∀ base : Heap, K.In base → base.Ns mainGlobals mg → FnG P w K mg base k fa fd [x] (spF K ct F 1)) (hbind : ∀ (s : Shared) (u : Value), BindsTo s fd ⟨[u], []⟩ [(x, u)])
    (hF : ∃ M', F [.rol (ns.map Dv.int)] [] = some (.bl true, M')) :
    codeAny (model P w) callerA (.call (.ref fa) ⟨[.ref a], []⟩) (fun r s' => r = .ok (.ret (.bool true)) ∧ OldK s₁.heap s'.heap ∧ s'.os = s₁.os ∧ AllBare s'.gens) s₁ := by
  obtain ⟨M', hF⟩ := hF
  have rv : Vals (ns.map V.int) us := vals_of_ints hi
  have lenV : ns.length = us.length := by simpa using rv.length
  -- from an abstract heap that holds the script at most, locked
  have core : ∀ H : Hp, (∀ b u, H b = some u → b = a ∧ u = .frz { cls := .type "list", data := .seq us.toArray } (.lst (ns.map V.int)) ∧ K.lookup a = none) → SqF K H a (ns.map V.int) →
      codeAny (model P w) callerA (.call (.ref fa) ⟨[.ref a], []⟩) (fun r s' => r = .ok (.ret (.bool true)) ∧ OldK s₁.heap s'.heap ∧ s'.os = s₁.os ∧ AllBare s'.gens) s₁ := by
    intro H hH hS
    have hok : HOk P w H s₁.heap := fun b u e => by
      obtain ⟨rfl, rfl, _⟩ := hH b u e
      exact ⟨ha, by rw [List.length_map]; exact hl, us, _, rv, ha⟩
    have hide : ∀ {b : Addr} {o : Obj} {es : Array DictEntry} {ep : Nat}, s₁.heap.get? b = some o → o.data = .dict es ep → (hidT s₁.heap H).get? b = some o := fun {b o es ep} e d => by
      refine hidT_get e ?_
      cases q : H b with
      | none => rfl
      | some u =>
        obtain ⟨rfl, _, _⟩ := hH b u q
        rw [ha] at e; cases e; cases d
    have nsK : ∀ {b : Addr} {m : Str → Option Value}, s₁.heap.Ns b m → (hidT s₁.heap H).Ns b m := fun ⟨o, es, ep, e, d, z⟩ => ⟨o, es, ep, hide e d, d, z⟩
    have kB : K.In (hidT s₁.heap H) := fun b o e => hidT_get (KX b o e) (by
      cases q : H b with
      | none => rfl
      | some u =>
        obtain ⟨rfl, _, z⟩ := hH b u q
        rw [z] at e; cases e)
    have e0 : Env0 P w K mg (hidT s₁.heap H) callerA [] s₁ H :=
      ⟨rfl, ⟨kB, nsK hns, ⟨mb, nsK hb, hbb⟩, let ⟨mc, h1, h2⟩ := hlim; ⟨mc, nsK h1, h2⟩⟩, fun b o e => of_hidT e, Nat.le_of_eq (hidT_size _ _), trivial, fun b hb => absurd (show b ∈ ([] : List Addr) from hb) (fun y => nomatch y), hok, AllBare.of_eq hg⟩
    have sp : spF K ct F 1 [.ref a] H (fun v _ => v = .bl true) E0 := ⟨rfl, [], [], _, ⟨rfl, List.nodup_nil, fun n o h => by simp at h⟩, .cons (.rol hS (dvs_ints ns)) .nil, _, _, hF, fun ρ' H' _ _ v hv => by cases hv; rfl⟩
    refine codeAny_mono ((G _ kB (nsK hns)).run callerA [] s₁ H ⟨[.ref a], []⟩ [.ref a] [.ref a] _ _ hr rfl e0 (hbind s₁ (.ref a)) (.cons rfl .nil) sp) fun z s' h => ?_
    match z, h with
    | .ok (.ret u), h =>
      obtain ⟨v, H', os, bare, un, hok', r', q⟩ := h
      have q' : v = .bl true := q
      subst q'
      obtain rfl : u = Value.bool true := r'
      refine ⟨rfl, OldK.of_keep fun b o e => ?_, os, bare⟩
      cases z : H b with
      | none => exact un.keep b o e z (fun y => absurd (show b ∈ ([] : List Addr) from y) (fun y => nomatch y)) (fun y => nomatch y)
      | some u =>
        obtain ⟨rfl, rfl, _⟩ := hH b u z
        rw [ha] at e
        rw [← e]
        exact (hok' _ _ (un.frzs _ _ _ z)).1
  cases hk : K.lookup a with
  | some o =>
    have e := KX a o hk
    rw [ha] at e
    cases e
    refine core (fun _ => none) (fun b u z => by cases z) (.inr ⟨fun H' => .inr ⟨_, us.toArray, _, hk, rfl, rfl, rfl, by rw [List.size_toArray, ← lenV]; exact hl, by simpa using rv⟩, _, hk, rfl⟩)
  | none =>
    refine core (fun b => if b = a then some (.frz { cls := .type "list", data := .seq us.toArray } (.lst (ns.map V.int))) else none) (fun b u z => ?_) (.inl ⟨_, if_pos rfl⟩)
    by_cases hb : b = a
    · rw [if_pos hb] at z; cases z
      exact ⟨hb, rfl, hk⟩
    · rw [if_neg hb] at z; cases z
/-- the goal that k_head leaves -/
theorem walk_end {l : PySem.W.OpenLaw} {k : Nat} {q : Program} {loose : List Str} {XP : (Str → Option Value) → Heap → Prop} {YP : World → Heap → Prop} {d : DefRec} {K : Params → Frg} {x : Str} {F : FF}
    (hn : l.most = some 63) (hdf : d.params.defaults = []) (hr : Room k callerA) (hY : ∀ (w : World) (h : Heap), YP w h → (K w.params).In h)
    (T : ∀ (w : World) (mg : Str → Option Value) (fa : Addr) (h : Heap), (K w.params).In h → h.Ns mainGlobals mg → mg d.name = some (.ref fa) →
      ∃ (ct : Ct) (fd : FuncData), (∀ (s : Shared) (u : Value), BindsTo s fd ⟨[u], []⟩ [(x, u)]) ∧ ∀ base : Heap, (K w.params).In base → base.Ns mainGlobals mg → FnG l.prog w (K w.params) mg base k fa fd [x] (spF (K w.params) ct F 1))
    (hF : ∀ ns : List Int, ns.length ≤ 63 → ∃ M', F [.rol (ns.map Dv.int)] [] = some (.bl true, M')) :
    PySem.W.WalkO q loose XP YP l.row.toRowW d [] (fun f vs => PySem.call f vs) := by
  refine Att.attach_call hn hdf fun w s₀ s₁ mg mb fa o pm cd doc a vs ns G Y ho hd hcd hmg hobj hints hlen hg => ?_
  have KX := hY w _ Y
  obtain ⟨ct, fd, hb, hG⟩ := T w mg fa _ KX G.T.g hmg
  exact law_end KX G.T.g G.T.b G.T.builtins G.T.nolimit hg hobj hints (Nat.le_trans hlen (by decide)) hr hG hb (hF ns hlen)
end Zl

/-! text Z11 -/
namespace Zl
open PySem L2 PySem.Spec PyProof.Rows
open AutoSeq1 (wpAny_loadPart')

/-! ## enumerate -/
theorem enumerate_newT (l : Addr) (items : Array Value) (n : Nat) (dct : Option Addr) (sl : Array (Option Value)) :
    Meets (Builtin.«enumerate.__new__» ⟨[.type "enumerate", .ref l], []⟩) (fun _ R s => s.heap.get? l = some { cls := .type "tuple", dict := dct, data := .seq items n, slots := sl } ∧
      R (.ok (.ret (.ref (s.heap.push { cls := .type "tuple_iterator", data := .fields #[.ref l, .int 0 0] }).objs.size)))
        { s with heap := (s.heap.push { cls := .type "tuple_iterator", data := .fields #[.ref l, .int 0 0] }).push { cls := .type "enumerate", data := .fields #[.none, .bool false, .ref s.heap.objs.size, rawInt 0, .none, .none] } }) :=
  .of_wp fun prog w A R s h => by
    obtain ⟨hp, g, d, tk, os⟩ := s
    obtain ⟨hl, h⟩ := h
    have hsub := sub_enumerate
    have hT : Heap.IsTuple (Shared.heap ⟨hp, g, d, tk, os⟩) l items := ⟨_, hl, rfl, n, rfl⟩
    wp_walk using wpAny_loadPart' hl
    refine wpAny_stack_any fun st => wpAny_pure ?_
    split
    · rename_i c _ _ _ _ _
      cases (c == Value.type "enumerate")
      · wp_walk using wpAny_loadPart' hl, wpAny_pyIter_tuple hT
        exact ⟨_, rfl, h⟩
      · wp_walk using wpAny_loadPart' hl, wpAny_pyIter_tuple hT
        exact ⟨_, rfl, h⟩
    · wp_walk using wpAny_loadPart' hl, wpAny_pyIter_tuple hT
      exact ⟨_, rfl, h⟩
theorem call_enumT {prog : Program} {w : World} {A : Around} {E : Value → Shared → Prop} {s : Shared} {l : Addr} {items : Array Value} {Q : Value → Shared → Prop} (hL : s.heap.IsTuple l items)
    (h : ∀ h', IsEnum h' (s.heap.objs.size + 1) s.heap.objs.size 0 .none → h'.IsTupleIter s.heap.objs.size l 0 → (∀ b o, s.heap.get? b = some o → h'.get? b = some o) → Q (.ref (s.heap.objs.size + 1)) { s with heap := h' }) :
    wpAny (model prog w) A (call (.type "enumerate") [.ref l]) Q E s := by
  obtain ⟨⟨c, dct, dt, sl⟩, hl, hc, n, hd⟩ := hL
  replace hc : c = .type "tuple" := hc
  replace hd : dt = .seq items n := hd
  subst hc hd
  refine callType_new F.called_enumerate (by decide) (F.typeCall_enumerate_1 _) (F.newCall_enumerate_1 _) (fun obj => F.args_object_init_2 obj _) F.entry_enumerate_new (enumerate_newT l items n dct sl) ⟨hl, ?_⟩
  have hz : (s.heap.push { cls := .type "tuple_iterator", data := .fields #[.ref l, .int 0 0] }).objs.size = s.heap.objs.size + 1 := Heap.size_push ..
  show _ ∧ _
  rw [hz]
  have he : IsEnum ((s.heap.push { cls := .type "tuple_iterator", data := .fields #[.ref l, .int 0 0] }).push
      { cls := .type "enumerate", data := .fields #[.none, .bool false, .ref s.heap.objs.size, rawInt 0, .none, .none] }) (s.heap.objs.size + 1) s.heap.objs.size 0 .none := by
    have q := Heap.get?_push_size (s.heap.push { cls := .type "tuple_iterator", data := .fields #[.ref l, .int 0 0] })
      (o := { cls := .type "enumerate", data := .fields #[.none, .bool false, .ref s.heap.objs.size, rawInt 0, .none, .none] }) rfl
    rwa [hz] at q
  exact ⟨⟨_, he, rfl⟩, h _ he ⟨_, Heap.get?_push_of_some _ (Heap.get?_push_size _ rfl), rfl, rfl⟩ fun b o x => Heap.get?_push_of_some _ (Heap.get?_push_of_some _ x)⟩
/-- the tuple at a, each item in a new pair -/
def IteT (K : Frg) (a : Addr) : It :=
  ⟨fun i H => ∃ (xs : List V) (x : V), SqT K H a xs ∧ xs[i]? = some x, fun i H v H' => ∃ T x, v = .ref T ∧ H T = none ∧ H' = upd H T (.tup [.int (i : Nat), x]) ∧ ∀ xs, SqT K H a xs → xs[i]? = some x, fun i H => ∃ xs : List V, SqT K H a xs ∧ xs.length = i⟩
theorem turn_enumT {P : Program} {w : World} {K : Frg} {elts : List Expr} {kk : Nat} {tpos : Pos} (a e it : Addr) (hai : a ≠ it) (hea : e ≠ a) :
    Turn P w K (.Tuple elts kk tpos) (IteT K a) [e, it] e (fun i h => (∃ old, IsEnum h e it ((i : Nat) : Int) old) ∧ h.IsTupleIter it a i ∧ e ≠ it) where
  mem := by simp
  obj := fun i h st b hb => by
    obtain ⟨⟨old, he⟩, ⟨o, ho, hc, hd⟩, _⟩ := st
    rcases (show b = e ∨ b = it by simpa using hb) with rfl | rfl
    · exact ⟨_, he, fun v q => nomatch q⟩
    · exact ⟨o, ho, fun v q => by rw [hd] at q; cases q⟩
  keep := fun i h h' st k => let ⟨⟨old, he⟩, hi, hne⟩ := st; ⟨⟨old, k e (by simp) _ he⟩, hi.at fun o q => k it (by simp) o q, hne⟩
  item := by
    intro X hP hw hK hc i pins s σ H E I hf st hg
    subst hP hw hK
    obtain ⟨⟨old, he⟩, hit, hne⟩ := st
    obtain ⟨xs, x, hq, hx⟩ := hg
    obtain ⟨its, rv, p, hz⟩ := I.tuple hq
    obtain ⟨u, hu, ru⟩ := rv.get hx
    have hil : i < its.toArray.size := by simpa using (List.getElem?_eq_some_iff.mp hu).1
    have hel : e < s.heap.objs.size := Heap.lt_size he
    have hitl : it < s.heap.objs.size := by obtain ⟨_, q, _⟩ := hit; exact Heap.lt_size q
    refine wpAny_pyNext_enum_itemD (Draws.tuple (A := X.A.in1) (I.ok.hd hc) it a hai its.toArray) he ⟨hit, p⟩ hil hne (by simp [hne, hea]) fun y h' tk hy ho st' hT hsz hk => ?_
    have ey : y = u := by
      have : its[i]? = some y := by simpa using hy
      rw [hu] at this; exact (Option.some.inj this).symm
    subst ey
    refine ⟨_, rfl, wpAny_letOwnedTupleGo_enum (s := { s with heap := h', toks := tk + 1 }) ho fun h'' he' sb => ?_⟩
    have hT2 : h''.get? s.heap.objs.size = some { cls := .type "tuple", data := .seq #[.int i tk, y] } := (sb.2 _ (Nat.ne_of_gt hel)).trans hT
    have new : ObjOk X.prog X.w (upd H s.heap.objs.size (.tup [.int (i : Nat), x])) h'' s.heap.objs.size (.tup [.int (i : Nat), x]) :=
      ⟨by show 2 ≤ sizeLine; decide, [.int i tk, y], .cons ⟨_, rfl⟩ (.cons ru .nil), ⟨_, hT2, rfl, _, rfl⟩⟩
    have I1 : Inv X pins σ (upd H s.heap.objs.size (.tup [.int (i : Nat), x])) { s with heap := h'', toks := tk + 1 } :=
      I.turnedNew (ch := [e, it]) (fun b ob hb q => (sb.2 b (fun z => hb (by simp [z]))).trans (hk b ob (fun z => hb (by simp [z])) (fun z => hb (by simp [z])) q)) hf (Nat.le_refl _) new
    refine ⟨V.ref s.heap.objs.size, _, I1, rfl, ⟨_, x, rfl, I.hok.fresh (Nat.le_refl _), rfl, fun ys hy => by rw [I.tuple_inj hy hq]; exact hx⟩, ⟨⟨y, by rw [Int.natCast_add]; exact he'⟩, st'.1.at fun o q => (sb.2 it (Ne.symm hne)).trans q, hne⟩, fun b hb => ?_⟩
    have hb' : b < s.heap.objs.size := by
      rcases (show b = e ∨ b = it by simpa using hb) with rfl | rfl
      · exact hel
      · exact hitl
    rw [upd_ne (Nat.ne_of_lt hb')]
    exact (hf b hb).1
  done := by
    intro X hP hw hK hc i pins s σ H E I hf st hg
    subst hP hw hK
    obtain ⟨⟨old, he⟩, hit, hne⟩ := st
    obtain ⟨xs, hq, hx⟩ := hg
    obtain ⟨its, rv, p, hz⟩ := I.tuple hq
    obtain ⟨f0, f1, f2, f3, f4, f5⟩ := hf it (by simp)
    have hl : its.toArray.size = i := by rw [List.size_toArray, ← rv.length, hx]
    subst hl
    exact wpAny_pyNext_enum_endD (Draws.tuple (A := X.A.in1) (I.ok.hd hc) it a hai its.toArray) he ⟨hit, p⟩ fun h' eb => ⟨rfl, I.turned (t' := s.toks) (fun b o hb q => eb b o hb q) f0 f1 f3 f4 f5⟩
  self := fun A i s Q E st h => let ⟨⟨_, he⟩, _⟩ := st; wpAny_pyIter_enum he h
section
variable {X : Cx} {ct : Ct} {e e2 o : Expr} {es : List Expr} {elts : List Expr} {kk : Nat} {p pos tpos apos cpos : Pos} {fe f2 fo : FE} {fr : FA}
theorem pi_enumT {ta : TE} (hg : Gl X "enumerate") (hm : X.mg "enumerate" = none) (ha : PE X e ta) (hs : starEach [e] X.env = [(false, eval e X.env)] := by rfl) :
    PI X (.Tuple elts kk tpos) (.Call (.Name "enumerate" p) [e] [] pos) (fun σ H R => ta σ H fun v H1 => ∃ a xs, v = .ref a ∧ SqT X.K H1 a xs ∧ R (IteT X.K a) H1) := by
  refine ⟨fun pins s σ H R I h => ?_⟩
  refine Call_ (ld_blt I hg hm boot_enumerate (PyProof.Rows.callWith_type1 (args_cons (thn (ha.run pins s σ H _ I h) fun u s1 z => args_nil ?_) hs) hs rfl))
  obtain ⟨v, H1, I1, rv, a, xs, rfl, hq, q⟩ := z
  cases rv
  obtain ⟨its, rv, p', hz⟩ := I1.tuple hq
  have hlt : a < s1.heap.objs.size := p'.lt
  refine call_enumT p' fun h' he hit hk => wpAny_pyIter_enum he ?_
  have I2 : Inv X pins σ H1 { s1 with heap := h' } := I1.kept (t' := s1.toks) hk
  refine ⟨s1.heap.objs.size + 1, [s1.heap.objs.size + 1, s1.heap.objs.size], _, _, H1, rfl, I2, turn_enumT a _ _ (Nat.ne_of_lt hlt) (fun z => absurd (z ▸ hlt : s1.heap.objs.size + 1 < s1.heap.objs.size) (by omega)), ⟨⟨.none, he⟩, hit, Nat.succ_ne_self _⟩, fun b hb => ?_, q⟩
  have hle : s1.heap.objs.size ≤ b := by
    rcases (show b = s1.heap.objs.size + 1 ∨ b = s1.heap.objs.size by simpa using hb) with rfl | rfl
    · exact Nat.le_succ _
    · exact Nat.le_refl _
  exact I1.fpOk hle (I1.hok.fresh hle)
def pairs (xs : List Dv) (i : Nat) : Option Dv := xs[i]?.map fun x => .pr [.int (i : Nat), x]
def srcE (M : Mem) : Dv → Option Src
  | .tup xs => some ⟨xs.length, fun i _ => if i ≤ xs.length then some (pairs xs i) else none⟩
  | .loc n => match M[n]? with
    | some (.lst xs) => some ⟨xs.length, fun i M => match M[n]? with
      | some (.lst xs) => some (pairs xs i)
      | _ => none⟩
    | _ => none
  | _ => none
def fEnum (f : FE) : FI := fun env M => bnd (f env M) fun d M1 => match srcE M1 d with
  | some s => some (s, M1)
  | none => none
theorem feeds_enumT {K : Frg} {ρ0 : List Addr} {H0 : Hp} {a : Addr} {xs : List Dv} {vs : List V} (hs : TupD K H0 a vs) (hd : DVs K ρ0 H0 xs vs) : Feeds K ct ρ0 H0 (IteT K a) (fun i _ => if i ≤ xs.length then some (pairs xs i) else none) := by
  intro i ρ M H x r
  dsimp only
  by_cases hi : i ≤ xs.length
  · rw [if_pos hi]
    unfold pairs
    cases q : xs[i]? with
    | none => exact ⟨vs, (hs.mono x).sq, by rw [← hd.length]; exact Nat.le_antisymm (List.getElem?_eq_none_iff.mp q) hi⟩
    | some d =>
      obtain ⟨v, h1, h2⟩ := hd.get q
      refine ⟨⟨vs, v, (hs.mono x).sq, h1⟩, fun y H' hy => ?_⟩
      obtain ⟨T, z, rfl, hT, rfl, hy⟩ := hy
      have := hy vs (hs.mono x).sq
      rw [h1] at this; cases this
      exact ⟨Ext.fresh hT, r.tup hT _, .pr (SqT.of upd_same) (.cons (.int _) (.cons ((h2.mono x).mono (Ext.fresh hT)) .nil))⟩
  · rw [if_neg hi]; trivial
theorem feeds_enumL {K : Frg} {ρ0 : List Addr} {H0 : Hp} {a : Addr} {n : Nat} (hn : ρ0[n]? = some a) : Feeds K ct ρ0 H0 (Ite K a) (fun i M => match M[n]? with
      | some (.lst xs) => some (pairs xs i)
      | _ => none) := by
  intro i ρ M H x r
  dsimp only
  cases hm : M[n]? with
  | none => trivial
  | some o =>
    cases o with
    | ins c fs => trivial
    | dct kvs => trivial
    | dcn kvs => trivial
    | st xs => trivial
    | lst xs =>
      obtain ⟨b, vs, eb, b1, b2, b3⟩ := r.lst hm (.loc (x.pre n a hn))
      cases eb
      show (match some (pairs xs i) with | some (some d) => _ | some none => _ | none => _)
      unfold pairs
      cases q : xs[i]? with
      | none => exact ⟨vs, SqL.of b2, by rw [← b3.length]; exact List.getElem?_eq_none_iff.mp q⟩
      | some d =>
        obtain ⟨v, h1, h2⟩ := b3.get q
        refine ⟨⟨vs, v, SqL.of b2, h1⟩, fun y H' hy => ?_⟩
        obtain ⟨T, z, rfl, hT, rfl, hy⟩ := hy
        have := hy vs (SqL.of b2)
        rw [h1] at this; cases this
        exact ⟨Ext.fresh hT, r.tup hT _, .pr (SqT.of upd_same) (.cons (.int _) (.cons (h2.mono (Ext.fresh hT)) .nil))⟩
theorem si_enum (hg : Gl X "enumerate") (hm : X.mg "enumerate" = none) (h : SE X ct e fe) (hs : starEach [e] X.env = [(false, eval e X.env)] := by rfl) : SI X ct (.Tuple elts kk tpos) (.Call (.Name "enumerate" p) [e] [] pos) (fEnum fe) := by
  refine PI.imp (PI.or (pi_enum hg hm (sa_cons h sa_nil hs) hs) (pi_enumT hg hm h hs)) fun σ H R ⟨ρ, M, env, r, he, src, M', hf, hq⟩ => ?_
  obtain ⟨d, M1, h1, hf⟩ := bnd_some hf
  split at hf
  · rename_i s0 hs
    cases hf
    unfold srcE at hs
    split at hs
    · cases hs
      exact .inr ⟨ρ, M, env, r, he, _, _, h1, fun ρ1 H1 e1 r1 v dv => by
        cases dv with
        | tup hs hd => exact ⟨_, _, rfl, hs.sq, hq ρ1 H1 e1 r1 _ (feeds_enumT hs hd)⟩⟩
    · split at hs
      · rename_i hm
        cases hs
        refine .inl ⟨ρ, M, env, r, he, [_], _, by show bnd (fe env M) _ = _; rw [h1]; rfl, fun ρ1 H1 e1 r1 vs dvs => ?_⟩
        obtain ⟨v, rfl, dv⟩ := dvs_one dvs
        obtain ⟨a, ws, rfl, a1, a2, a3⟩ := r1.lst hm dv
        exact ⟨_, _, rfl, SqL.of a2, hq ρ1 H1 e1 r1 _ (feeds_enumL a1)⟩
      · cases hs
    · cases hs
  · cases hf
/-! ## tuple(range(..)), list(range(..)) -/
def rgD (a b : Int) : List Dv := (List.range (b - a).toNat).map fun i => .int (a + (i : Nat))
theorem dvs_rg {K : Frg} {ρ : List Addr} {H : Hp} (a b : Int) : DVs K ρ H (rgD a b) (rgV a b) := by
  unfold rgD rgV
  induction List.range (b - a).toNat with
  | nil => exact .nil
  | cons x r ih => exact .cons (.int _) ih
def rgOk (a b : Int) : Bool := decide (-(2 ^ 62) ≤ a ∧ a < 2 ^ 62 ∧ -(2 ^ 62) ≤ b ∧ b < 2 ^ 62 ∧ (b - a).toNat ≤ 2 ^ 24)
theorem rgOk_of {a b : Int} (h : rgOk a b = true) : RgOk a b := by
  have := of_decide_eq_true h
  exact this
/-- an expression that makes a range -/
abbrev FR := En → Mem → Option ((Int × Int) × Mem)
def tRz (K : Frg) (ct : Ct) (f : FR) : L2.St → Hp → (Int → Int → Hp → Prop) → Prop := fun σ H Q => ∃ ρ M env, Rl K ct ρ M H ∧ EnOk K ρ H env σ ∧ ∃ q M', f env M = some (q, M') ∧ Aft K ct ρ H M' fun _ H' => Q q.1 q.2 H'
abbrev SR (X : Cx) (ct : Ct) (e : Expr) (f : FR) : Prop := PRg X e (tRz X.K ct f)
def fRg1 (f : FE) : FR := fun env M => bnd (f env M) fun d M1 => match d with
  | .int n => some ((0, n), M1)
  | _ => none
def fRg2 (f g : FE) : FR := fun env M => bnd (f env M) fun d M1 => bnd (g env M1) fun d2 M2 => match d, d2 with
  | .int i, .int j => some ((i, j), M2)
  | _, _ => none
theorem sr_1 (hg : Gl X "range") (hm : X.mg "range" = none) (ha : SE X ct e fe) (na : starEach [e] X.env = (false, eval e X.env) :: starEach [] X.env := by rfl) : SR X ct (.Call (.Name "range" p) [e] [] pos) (fRg1 fe) := by
  intro pins s σ H Q I w
  refine prg_1 hg hm ha na pins s σ H Q I ?_
  obtain ⟨ρ, M, env, r, he, q, M', hf, hq⟩ := w
  obtain ⟨d, M1, h1, hf⟩ := bnd_some hf
  refine ⟨ρ, M, env, r, he, d, M1, h1, fun ρ1 H1 e1 r1 v dv => ?_⟩
  split at hf
  · cases hf; cases dv
    exact ⟨_, rfl, hq ρ1 H1 e1 r1⟩
  · cases hf
theorem sr_2 (hg : Gl X "range") (hm : X.mg "range" = none) (ha : SE X ct e fe) (hb : SE X ct e2 f2) (na : starEach [e, e2] X.env = (false, eval e X.env) :: starEach [e2] X.env := by rfl) (nb : starEach [e2] X.env = (false, eval e2 X.env) :: starEach [] X.env := by rfl) (hpl : (backTo pos (starEach [e2] X.env)).any (·.1) = false := by rfl) : SR X ct (.Call (.Name "range" p) [e, e2] [] pos) (fRg2 fe f2) := by
  intro pins s σ H Q I w
  refine prg_2 hg hm ha hb na nb hpl pins s σ H Q I ?_
  obtain ⟨ρ, M, env, r, he, q, M', hf, hq⟩ := w
  obtain ⟨d, M1, h1, hf⟩ := bnd_some hf
  obtain ⟨d2, M2, h2, hf⟩ := bnd_some hf
  refine ⟨ρ, M, env, r, he, d, M1, h1, fun ρ1 H1 e1 r1 v dv => ⟨ρ1, M1, env, r1, he.mono e1, d2, M2, h2, fun ρ2 H2 e2 r2 u du => ?_⟩⟩
  split at hf
  · cases hf; cases dv; cases du
    exact ⟨_, _, rfl, rfl, hq ρ2 H2 (e1.trans e2) r2⟩
  · cases hf
def fTupR (f : FR) : FE := fun env M => bnd (f env M) fun q M1 => if rgOk q.1 q.2 then some (.tup (rgD q.1 q.2), M1) else none
def fLstR (f : FR) : FE := fun env M => bnd (f env M) fun q M1 => if rgOk q.1 q.2 then some (.loc M1.length, M1 ++ [.lst (rgD q.1 q.2)]) else none
theorem pe_tupRF {te : L2.St → Hp → (Int → Int → Hp → Prop) → Prop} (hc : X.calm = true) (hg : Gl X "tuple") (hm : X.mg "tuple" = none) (he : PRg X e te) (na : starEach [e] X.env = (false, eval e X.env) :: starEach [] X.env := by rfl) :
    PE X (.Call (.Name "tuple" p) [e] [] pos) (fun σ H Q => te σ H fun a b H1 => RgOk a b ∧ ∀ q o, H1 q = none → o.dict = none → Q (.ref q) (upd H1 q (.frz o (.tup (rgV a b))))) := by
  refine ⟨fun pins s σ H Q I h => ?_⟩
  refine Call_ (ld_blt I hg hm boot_tuple (PyProof.Rows.callWith_type1 (args_cons (thn (he pins s σ H _ I h) fun x s1 z => args_nil ?_) na) na))
  obtain ⟨r, a, b, t, u, v, H1, rfl, hr, I1, ok, q⟩ := z
  obtain ⟨b1, b2, b3, b4, b5⟩ := ok
  refine call_tuple_range (n := (b - a).toNat) (I1.ok.hd hc) hr (small_one b1 b2 b3 b4) (rangeSize_nat a b) b5 fun h' tk acc hk hi => ?_
  have I2 : Inv X pins σ H1 { s1 with heap := h', toks := tk } := I1.kept hk
  have Z := layT (tk := tk) I2 (vals_rg hi) (by rw [rgV_length, sizeLine_eq]; omega)
  rw [Array.toArray_toList] at Z
  exact ⟨V.ref h'.objs.size, _, Z, rfl, q _ _ (I2.hok.fresh (Nat.le_refl _)) rfl⟩
theorem se_tupR {fq : FR} (hc : X.calm = true) (hg : Gl X "tuple") (hm : X.mg "tuple" = none) (he : SR X ct e fq) (na : starEach [e] X.env = (false, eval e X.env) :: starEach [] X.env := by rfl) : SE X ct (.Call (.Name "tuple" p) [e] [] pos) (fTupR fq) :=
  PE.imp (pe_tupRF hc hg hm he na) fun σ H Q ⟨ρ, M, env, r, hen, d, M', hf, hq⟩ => by
    obtain ⟨q, M1, h1, hf⟩ := bnd_some hf
    split at hf
    · rename_i hk
      cases hf
      exact ⟨ρ, M, env, r, hen, q, _, h1, fun ρ1 H1 e1 r1 => ⟨rgOk_of hk, fun p o hp ho => hq ρ1 _ (e1.trans (Ext.fresh hp)) (r1.tup hp _) _ (.tup (TupD.new ho) (dvs_rg _ _))⟩⟩
    · cases hf
theorem se_lstR {fq : FR} (hc : X.calm = true) (hg : Gl X "list") (hm : X.mg "list" = none) (he : SR X ct e fq) (na : starEach [e] X.env = (false, eval e X.env) :: starEach [] X.env := by rfl) : SE X ct (.Call (.Name "list" p) [e] [] pos) (fLstR fq) :=
  PE.imp (pe_listRg hc hg hm he na) fun σ H Q ⟨ρ, M, env, r, hen, d, M', hf, hq⟩ => by
    obtain ⟨q, M1, h1, hf⟩ := bnd_some hf
    split at hf
    · rename_i hk
      cases hf
      refine ⟨ρ, M, env, r, hen, q, _, h1, fun ρ1 H1 e1 r1 => ⟨rgOk_of hk, fun p hp => ?_⟩⟩
      obtain ⟨r2, e2, h2⟩ := r1.newL hp (dvs_rg q.1 q.2)
      exact hq _ _ (e1.trans e2) r2 _ (.loc h2)
    · cases hf
/-! ## two roads by what a value is -/
theorem PE.or {t t' : TE} (h : PE X e t) (h' : PE X e t') : PE X e (fun σ H Q => t σ H Q ∨ t' σ H Q) := ⟨fun pins s σ H Q I w => w.elim (h.run pins s σ H Q I) (h'.run pins s σ H Q I)⟩
theorem PG.or {t t' : TG} (h : PG X e t) (h' : PG X e t') : PG X e (fun v σ H Q => t v σ H Q ∨ t' v σ H Q) := ⟨fun pins s σ H v u Q I r w => w.elim (h.run pins s σ H v u Q I r) (h'.run pins s σ H v u Q I r)⟩
/-- f where it serves, else g -/
def fOr (f g : FE) : FE := fun env M => match f env M with
  | some y => some y
  | none => g env M
theorem se_or2 (h : SE X ct e fe) (h' : SE X ct e f2) : SE X ct e (fOr fe f2) :=
  PE.imp (PE.or h h') fun σ H Q ⟨ρ, M, env, r, he, d, M', hf, hq⟩ => by
    unfold fOr at hf
    split at hf
    · rename_i y hy
      cases hf
      exact .inl ⟨ρ, M, env, r, he, d, M', hy, hq⟩
    · exact .inr ⟨ρ, M, env, r, he, d, M', hf, hq⟩
def gOr (f g : FG) : FG := fun d env M => match f d env M with
  | some y => some y
  | none => g d env M
theorem sg_or2 {ws : List Nat} {f g : FG} (h : SG X ct ws e f) (h' : SG X ct ws e g) : SG X ct ws e (gOr f g) :=
  PG.imp (PG.or h h') fun v σ H Q ⟨ρ, M, env, d, r, he, dv, env', M', hf, hq⟩ => by
    unfold gOr at hf
    split at hf
    · rename_i y hy
      cases hf
      exact .inl ⟨ρ, M, env, d, r, he, dv, env', M', hy, hq⟩
    · exact .inr ⟨ρ, M, env, d, r, he, dv, env', M', hf, hq⟩
end
end Zl

/-! text Z12 -/
namespace Zl
open PySem L2 PySem.Spec PyProof.Rows
section
variable {X : Cx} {ct : Ct} {pos : Pos}
theorem sv_l {x : Str} (i : Nat) (hN : X.N[i]? = some x := by rfl) (hv : X.env.scope.names.lookup x = some .local := by exact rfl) (hd : (x == ("__debug__" : Str)) = false := by decide) (hcd : (x == ("__classdict__" : Str)) = false := by decide) : SE X ct (.Name x pos) (fV i) := se_var hN (.inl hv) hd hcd
theorem sv_c {x : Str} (i : Nat) (hN : X.N[i]? = some x := by rfl) (hv : X.env.scope.names.lookup x = some .cell := by exact rfl) (hd : (x == ("__debug__" : Str)) = false := by decide) (hcd : (x == ("__classdict__" : Str)) = false := by decide) : SE X ct (.Name x pos) (fV i) := se_var hN (.inr (.inl hv)) hd hcd
theorem sv_f {x : Str} (i : Nat) (hN : X.N[i]? = some x := by rfl) (hv : Vis X.env.scope x := by first | exact Or.inr (Or.inl rfl) | exact Or.inr (Or.inr rfl)) (hd : (x == ("__debug__" : Str)) = false := by decide) (hcd : (x == ("__classdict__" : Str)) = false := by decide) : SE X ct (.Name x pos) (fV i) := se_var hN hv hd hcd
theorem hu65 {k : Nat} {A : Around} (r : Room k A) : A.units + 65 < cLine := by have := r.un; omega
/-- a constant of the module -/
def GlobIs (K : Frg) (mg : Str → Option Value) (x : Str) (d : Dv) : Prop := ∃ (v : V) (u : Value), mg x = some u ∧ RelV v u ∧ ∀ ρ H, DV K ρ H d v
theorem se_globIs {x : Str} {d : Dv} (hg : Gl X x) (g : GlobIs X.K X.mg x d) (hd : (x == ("__debug__" : Str)) = false := by decide) : SE X ct (.Name x pos) (fK d) := by
  obtain ⟨v, u, h1, h2, h3⟩ := g
  exact se_glob hg h1 h2 h3 hd
def lcountD : FM
  | .loc n, [x], M => match M[n]? with
    | some (.lst ys) => if flatD x && ys.all flatD then some (.int (ys.countP fun y => eqF y x : Nat), M) else none
    | _ => none
  | _, _, _ => none
theorem sm_lcount : SM X ct "list.count" lcountD := by
  intro pins s σ H x xs v us Q I rx rxs w
  obtain ⟨ρ, M, d, ds, r, dx, dxs, z, M', hf, hq⟩ := w
  unfold lcountD at hf
  split at hf
  · split at hf
    · rename_i ys hm
      obtain ⟨a, vs, rfl, a1, a2, a3⟩ := r.lst hm dx
      obtain ⟨y, rfl, dy⟩ := dvs_one dxs
      obtain ⟨u, rfl, ru⟩ := vals1 rxs
      split at hf
      · rename_i hl
        rw [Bool.and_eq_true] at hl
        cases hf
        cases rx
        obtain ⟨ws, rw', ⟨⟨cls, dd, data, sl⟩, n, ho, hc, hc2, hd'⟩, hz⟩ := I.list (SqL.of a2)
        simp only at hc hc2 hd'
        subst hc hc2 hd'
        refine call_meets PySem.F.slot_list_count ⟨_, ho, rfl⟩ PySem.F.entry_list_count (PySem.F.args_list_count_2 _ _)
          (SeqAt.list_countAt _ ws.toArray n none sl u (eqU y)) ⟨ho, fun c hc => mem_eqAt ru (by rw [flat_of dy]; exact hl.1) rw' (by rw [flats_of a3]; exact hl.2) c (by simpa using hc), ?_⟩
        refine ⟨V.int (ws.countP (eqU y) : Nat), H, I.tok _, ⟨s.toks, rfl⟩, ?_⟩
        rw [count_eqU dy hl.1 a3 rw' hl.2]
        exact hq ρ H .refl r _ (.int _)
      · cases hf
    · cases hf
  · cases hf
end
end Zl

/-! text Z14 -/
namespace Zl
open PySem L2 PySem.Spec PyProof.Rows

/-! ## zip of two tuples, of two lists -/
def zipAt (xs ys : List Dv) (i : Nat) : Option Dv := match xs[i]?, ys[i]? with
  | some x, some y => some (.pr [x, y])
  | _, _ => none
def srcZ (M : Mem) : Dv → Dv → Option Src
  | .tup xs, .tup ys => some ⟨min xs.length ys.length, fun i _ => some (zipAt xs ys i)⟩
  | .loc m, .loc n => match M[m]?, M[n]? with
    | some (.lst xs), some (.lst ys) => some ⟨min xs.length ys.length, fun i M => match M[m]?, M[n]? with
      | some (.lst xs), some (.lst ys) => some (zipAt xs ys i)
      | _, _ => none⟩
    | _, _ => none
  | _, _ => none
def fZip (f g : FE) : FI := fun env M => bnd (f env M) fun d M1 => bnd (g env M1) fun e M2 => match srcZ M2 d e with
  | some s => some (s, M2)
  | none => none
section
variable {X : Cx} {ct : Ct} {e e2 : Expr} {elts : List Expr} {kk : Nat} {p pos tpos : Pos} {fe f2 : FE}
theorem feeds_zipT {K : Frg} {ρ0 : List Addr} {H0 : Hp} {a b : Addr} {xs ys : List Dv} {vs ws : List V} (hs : TupD K H0 a vs) (hd : DVs K ρ0 H0 xs vs) (hs' : TupD K H0 b ws) (hd' : DVs K ρ0 H0 ys ws) : Feeds K ct ρ0 H0 (RZ.ItzT K a b) (fun i _ => some (zipAt xs ys i)) := by
  intro i ρ M H x r
  dsimp only
  unfold zipAt
  cases q : xs[i]? with
  | none => exact ⟨vs, ws, (hs.mono x).sq, (hs'.mono x).sq, .inl (by rw [← hd.length]; exact List.getElem?_eq_none_iff.mp q)⟩
  | some d =>
    cases q' : ys[i]? with
    | none => exact ⟨vs, ws, (hs.mono x).sq, (hs'.mono x).sq, .inr (by rw [← hd'.length]; exact List.getElem?_eq_none_iff.mp q')⟩
    | some d' =>
      obtain ⟨v, h1, h2⟩ := hd.get q
      obtain ⟨v', h1', h2'⟩ := hd'.get q'
      refine ⟨⟨vs, ws, v, v', (hs.mono x).sq, (hs'.mono x).sq, h1, h1'⟩, fun y H' hy => ?_⟩
      obtain ⟨T, z, z', rfl, hT, rfl, hy, hy'⟩ := hy
      have e1 := hy vs (hs.mono x).sq
      rw [h1] at e1; cases e1
      have e2 := hy' ws (hs'.mono x).sq
      rw [h1'] at e2; cases e2
      exact ⟨Ext.fresh hT, r.tup hT _, .pr (SqT.of upd_same) (.cons ((h2.mono x).mono (Ext.fresh hT)) (.cons ((h2'.mono x).mono (Ext.fresh hT)) .nil))⟩
theorem feeds_zipL {K : Frg} {ρ0 : List Addr} {H0 : Hp} {a b : Addr} {m n : Nat} (hm : ρ0[m]? = some a) (hn : ρ0[n]? = some b) : Feeds K ct ρ0 H0 (Itz K a b) (fun i M => match M[m]?, M[n]? with
      | some (.lst xs), some (.lst ys) => some (zipAt xs ys i)
      | _, _ => none) := by
  intro i ρ M H x r
  dsimp only
  cases h1 : M[m]? with
  | none => trivial
  | some o =>
    cases o with
    | ins c fs => trivial
    | dct kvs => trivial
    | dcn kvs => trivial
    | st xs => trivial
    | lst xs =>
      cases h2 : M[n]? with
      | none => trivial
      | some o2 =>
        cases o2 with
        | ins c fs => trivial
        | dct kvs => trivial
        | dcn kvs => trivial
        | st xs => trivial
        | lst ys =>
          obtain ⟨a', vs, ea, a1, a2, a3⟩ := r.lst h1 (.loc (x.pre m a hm))
          cases ea
          obtain ⟨b', ws, eb, b1, b2, b3⟩ := r.lst h2 (.loc (x.pre n b hn))
          cases eb
          show (match some (zipAt xs ys i) with | some (some d) => _ | some none => _ | none => _)
          unfold zipAt
          cases q : xs[i]? with
          | none => exact ⟨vs, ws, SqL.of a2, SqL.of b2, .inl (by rw [← a3.length]; exact List.getElem?_eq_none_iff.mp q)⟩
          | some d =>
            cases q' : ys[i]? with
            | none => exact ⟨vs, ws, SqL.of a2, SqL.of b2, .inr (by rw [← b3.length]; exact List.getElem?_eq_none_iff.mp q')⟩
            | some d' =>
              obtain ⟨v, g1, g2⟩ := a3.get q
              obtain ⟨v', g1', g2'⟩ := b3.get q'
              refine ⟨⟨vs, ws, v, v', SqL.of a2, SqL.of b2, g1, g1'⟩, fun y H' hy => ?_⟩
              obtain ⟨T, z, z', rfl, hT, rfl, hy, hy'⟩ := hy
              have e1 := hy vs (SqL.of a2)
              rw [g1] at e1; cases e1
              have e2 := hy' ws (SqL.of b2)
              rw [g1'] at e2; cases e2
              exact ⟨Ext.fresh hT, r.tup hT _, .pr (SqT.of upd_same) (.cons (g2.mono (Ext.fresh hT)) (.cons (g2'.mono (Ext.fresh hT)) .nil))⟩
theorem si_zip (hg : Gl X "zip") (hm : X.mg "zip" = none) (h : SE X ct e fe) (h2 : SE X ct e2 f2) (hs1 : starEach [e, e2] X.env = (false, eval e X.env) :: starEach [e2] X.env := by rfl) (hs2 : starEach [e2] X.env = [(false, eval e2 X.env)] := by rfl)
    (hpl : (backTo pos (starEach [e2] X.env)).any (·.1) = false := by rfl) : SI X ct (.Tuple elts kk tpos) (.Call (.Name "zip" p) [e, e2] [] pos) (fZip fe f2) := by
  refine PI.imp (RZ.pi_zipA hg hm (sa_cons h (sa_cons h2 sa_nil hs2) hs1) hs1 hpl) fun σ H R ⟨ρ, M, env, r, he, src, M', hf, hq⟩ => ?_
  obtain ⟨d, M1, h1, hf⟩ := bnd_some hf
  obtain ⟨d2, M2, h2, hf⟩ := bnd_some hf
  split at hf
  · rename_i s0 hs
    cases hf
    refine ⟨ρ, M, env, r, he, [d, d2], M', by show bnd (fe env M) _ = _; rw [h1]; show bnd (bnd (f2 env M1) _) _ = _; rw [h2]; rfl, fun ρ1 H1 e1 r1 vs dvs => ?_⟩
    obtain ⟨u, u', rfl, q1, q2⟩ := dvs_two dvs
    unfold srcZ at hs
    split at hs
    · cases hs
      cases q1 with
      | tup hs1 hd1 =>
        cases q2 with
        | tup hs2 hd2 => exact ⟨_, _, _, _, rfl, .inr ⟨hs1.sq, hs2.sq, hq ρ1 H1 e1 r1 _ (feeds_zipT hs1 hd1 hs2 hd2)⟩⟩
    · split at hs
      · rename_i g1 g2
        cases hs
        obtain ⟨a, ws, rfl, a1, a2, a3⟩ := r1.lst g1 q1
        obtain ⟨b, ws2, rfl, b1, b2, b3⟩ := r1.lst g2 q2
        exact ⟨_, _, _, _, rfl, .inl ⟨SqL.of a2, SqL.of b2, hq ρ1 H1 e1 r1 _ (feeds_zipL a1 b1)⟩⟩
      · cases hs
    · cases hs
  · cases hf
end
end Zl

/-! text Z15 -/
namespace Zl
open PySem L2 PySem.Spec PyProof.Rows
section
variable {X : Cx} {ct : Ct}
/-- repr of flat values, too -/
def reprE : List Dv → Mem → Rz
  | [.bl b], M => some (.str (if b then "True" else "False"), M)
  | [.non], M => some (.str "None", M)
  | [.str x], M => if (reprText x).length ≤ sizeLine then some (.str (reprText x), M) else none
  | ds, M => reprD ds M
theorem sc_reprE (hg : X.A.guards = some []) (hu : X.A.units + 64 < cLine) : SC X ct (.builtin "repr") reprE := by
  intro pins s σ H xs us Q I rv h
  obtain ⟨ρ, M, ds, r, dv, z, M', hf, hq⟩ := h
  unfold reprE at hf
  split at hf
  · cases hf
    obtain ⟨v, rfl, d1⟩ := dvs_one dv
    cases d1
    obtain ⟨u, rfl, ru⟩ := vals1 rv
    cases ru
    exact PySem.P.repr_of_bool ⟨.str _, H, I.tok _, ⟨_, rfl⟩, hq ρ H .refl r _ (.str _)⟩
  · cases hf
    obtain ⟨v, rfl, d1⟩ := dvs_one dv
    cases d1
    obtain ⟨u, rfl, ru⟩ := vals1 rv
    cases ru
    exact PySem.P.repr_of_none ⟨.str _, H, I.tok _, ⟨_, rfl⟩, hq ρ H .refl r _ (.str _)⟩
  · split at hf
    · rename_i hl
      cases hf
      obtain ⟨v, rfl, d1⟩ := dvs_one dv
      cases d1
      obtain ⟨u, rfl, t, rfl⟩ := vals1 rv
      exact PySem.P.repr_of_str ⟨.str _, H, I.tok _, ⟨_, rfl⟩, hq ρ H .refl r _ (.str _)⟩ hl
    · cases hf
  · exact sc_repr hg hu pins s σ H xs us Q I rv ⟨ρ, M, ds, r, dv, z, M', hf, hq⟩
/-- is None, is True, is False -/
def isE (neg : Bool) : Dv → Dv → Mem → Rz
  | .bl a, .bl b, M => some (.bl (xor neg (decide (a = b))), M)
  | d, e, M => isD neg d e M
theorem so_isE : SO X ct (compareOp .Is) (isE false) := by
  intro pins s σ H x y v u Q I rx ry h
  obtain ⟨ρ, M, d, e, r, dx, dy, z, M', hf, hq⟩ := h
  unfold isE at hf
  split at hf
  · cases hf; cases dx; cases dy
    exact op_isBl pins s σ H _ _ v u Q I rx ry ⟨_, _, rfl, rfl, hq ρ H .refl r _ (by rw [Bool.false_xor]; exact .bl _)⟩
  · exact so_is pins s σ H x y v u Q I rx ry ⟨ρ, M, _, _, r, dx, dy, z, M', hf, hq⟩
theorem so_isnotE : SO X ct (compareOp .IsNot) (isE true) := by
  intro pins s σ H x y v u Q I rx ry h
  obtain ⟨ρ, M, d, e, r, dx, dy, z, M', hf, hq⟩ := h
  unfold isE at hf
  split at hf
  · cases hf; cases dx; cases dy
    exact op_notBl pins s σ H _ _ v u Q I rx ry ⟨_, _, rfl, rfl, hq ρ H .refl r _ (by rw [Bool.true_xor]; exact .bl _)⟩
  · exact so_isnot pins s σ H x y v u Q I rx ry ⟨ρ, M, _, _, r, dx, dy, z, M', hf, hq⟩
end
end Zl

/-! text Z16 -/
namespace Zl
open PySem L2 PySem.Spec PyProof.Rows
section
variable {X : Cx} {ct : Ct}
def signsD (x : Str) : List Dv := x.cps.toList.map fun c => .str ⟨#[c]⟩
def signsV (x : Str) : List V := x.cps.toList.map fun c => .str ⟨#[c]⟩
theorem dvs_signs {K : Frg} {ρ : List Addr} {H : Hp} : ∀ cs : List Nat, DVs K ρ H (cs.map fun c => Dv.str ⟨#[c]⟩) (cs.map fun c => V.str ⟨#[c]⟩)
  | [] => .nil
  | c :: cs => .cons (.str _) (dvs_signs cs)
/-- list(text), too -/
def lstE : List Dv → Mem → Rz
  | [.str x], M => if x.cps.size ≤ sizeLine then some (.loc M.length, M ++ [.lst (signsD x)]) else none
  | ds, M => lstD ds M
theorem sc_listE (hc : X.calm = true) : SC X ct (.type "list") lstE := by
  intro pins s σ H xs us Q I rv h
  obtain ⟨ρ, M, ds, r, dv, z, M', hf, hq⟩ := h
  unfold lstE at hf
  split at hf
  · rename_i a0 b0 x
    split at hf
    · rename_i hl
      cases hf
      obtain ⟨v, rfl, d1⟩ := dvs_one dv
      cases d1
      obtain ⟨u, rfl, t, rfl⟩ := vals1 rv
      refine call_list_str (I.ok.hd hc) x t (fun h' tk acc' c' hkeep hS hacc => ?_) hl
      obtain ⟨r2, e2, h2⟩ := r.newL (I.hok.fresh (Nat.le_refl s.heap.objs.size)) (dvs_signs (K := X.K) (ρ := ρ) (H := H) x.cps.toList)
      refine ⟨.ref s.heap.objs.size, upd H s.heap.objs.size (.lst (signsV x)), I.laid hkeep (Nat.le_refl _) (show ObjOk X.prog X.w _ _ _ (.lst (signsV x)) from ⟨?_, acc'.toList, c', ?_, ?_⟩), rfl, hq _ _ e2 r2 _ (.loc h2)⟩
      · unfold signsV; rw [List.length_map]; simpa using hl
      · have el : acc'.toList.length = acc'.size := by simp
        refine vals_of_at (by unfold signsV; rw [List.length_map, el, hacc.1]; simp) fun j y w h1 h2 => ?_
        have := hacc.2 j w (by rw [← Array.getElem?_toList]; exact h2)
        obtain ⟨c, t', hc', rfl⟩ := this
        unfold signsV at h1
        rw [List.getElem?_map, Array.getElem?_toList, hc'] at h1
        simp at h1
        subst h1
        exact ⟨t', rfl⟩
      · simpa using hS
    · cases hf
  · exact sc_list pins s σ H xs us Q I rv ⟨ρ, M, ds, r, dv, z, M', hf, hq⟩
end
end Zl

/-! text ZN -/
namespace Zl
open PySem L2 PySem.Spec PyProof.Rows

/-! ## dicts whose keys are nested tuples -/
def valN (kvs : List (NestedKey × Dv × Dv)) (k : NestedKey) : Option Dv := (kvs.find? fun kv => decide (kv.1 = k)).map (·.2.2)
def putN (kvs : List (NestedKey × Dv × Dv)) (k : NestedKey) (kd v : Dv) : List (NestedKey × Dv × Dv) :=
  if (valN kvs k).isSome then kvs.map (fun kv => if kv.1 = k then (kv.1, kv.2.1, v) else kv) else kvs ++ [(k, kd, v)]
section
variable {X : Cx} {ct : Ct} {ρ : List Addr} {H : Hp} {M : Mem} {pins : List (Addr × Obj)} {σ : L2.St} {s : Shared}
theorem nest_all {n : Nat} (I : L2.Inv X pins σ H s) (ih : ∀ {d : Dv} {v : V} {u : Value} {k : NestedKey}, DV X.K ρ H d v → RelV v u → nkN n d = some k → NestedIs s.heap k u ∧ k.depth ≤ n) :
    ∀ {ds : List Dv} {vs : List V} {us : List Value} {ks : List NestedKey}, DVs X.K ρ H ds vs → Vals vs us → nkL (nkN n) ds = some ks → NestedAll s.heap ks us ∧ NestedKey.depthAll ks ≤ n
  | [], _, _, ks, h, r, e => by
    cases h
    cases r
    cases e
    exact ⟨.nil, Nat.zero_le _⟩
  | d :: ds, _, _, ks, h, r, e => by
    cases h with
    | cons h1 h2 =>
      cases r with
      | cons r1 r2 =>
        unfold nkL at e
        split at e
        · rename_i k hk
          split at e
          · rename_i ks' hks
            cases e
            obtain ⟨a1, a2⟩ := ih h1 r1 hk
            obtain ⟨b1, b2⟩ := nest_all I ih h2 r2 hks
            exact ⟨.cons a1 b1, by unfold NestedKey.depthAll; exact Nat.max_le.mpr ⟨a2, b2⟩⟩
          · cases e
        · cases e
theorem nest_is (I : L2.Inv X pins σ H s) : ∀ (n : Nat) {d : Dv} {v : V} {u : Value} {k : NestedKey}, DV X.K ρ H d v → RelV v u → nkN n d = some k → NestedIs s.heap k u ∧ k.depth ≤ n := by
  intro n
  induction n with
  | zero =>
    intro d v u k h r e
    cases h with
    | non => cases e; cases r; exact ⟨.none, Nat.zero_le _⟩
    | bl b => cases e; cases r; exact ⟨.bool rfl, Nat.zero_le _⟩
    | int i => cases e; obtain ⟨t, rfl⟩ := r; exact ⟨.int _ _, Nat.zero_le _⟩
    | str x => cases e; obtain ⟨t, rfl⟩ := r; exact ⟨.text _ _, Nat.zero_le _⟩
    | _ => cases e
  | succ n ih =>
    intro d v u k h r e
    cases h with
    | non => cases e; cases r; exact ⟨.none, Nat.zero_le _⟩
    | bl b => cases e; cases r; exact ⟨.bool rfl, Nat.zero_le _⟩
    | int i => cases e; obtain ⟨t, rfl⟩ := r; exact ⟨.int _ _, Nat.zero_le _⟩
    | str x => cases e; obtain ⟨t, rfl⟩ := r; exact ⟨.text _ _, Nat.zero_le _⟩
    | tup hs hd =>
      unfold nkN at e
      split at e
      · rename_i ks hks
        cases e
        cases r
        obtain ⟨its, rv, ⟨o, ho, hc, m, hdt⟩, _⟩ := I.tuple hs.sq
        obtain ⟨a1, a2⟩ := nest_all I ih hd rv hks
        exact ⟨.tup ho hc hdt (by simpa using a1), by unfold NestedKey.depth; omega⟩
      · cases e
    | _ => cases e
/-- a tuple that is a key stands somewhere -/
theorem key_is (I : L2.Inv X pins σ H s) {d : Dv} {v : V} {u : Value} {k : NestedKey} (h : DV X.K ρ H d v) (r : RelV v u) (e : keyN d = some k) : ∃ b, v = .ref b ∧ u = .ref b ∧ (nestedKind X.prog X.w).is s.heap k b := by
  unfold keyN at e
  split at e
  · have z := nest_is I 8 h r e
    cases h with
    | tup hs hd =>
      cases r
      exact ⟨_, rfl, rfl, z⟩
  · cases e
theorem Rl.dcn {K : Frg} (r : Rl K ct ρ M H) {n : Nat} {kvs : List (NestedKey × Dv × Dv)} (hm : M[n]? = some (.dcn kvs)) {v : V} (hv : DV K ρ H (.loc n) v) :
    ∃ a xs vs, v = .ref a ∧ ρ[n]? = some a ∧ H a = some (NDic ct.prg ct.wd a xs) ∧ kvs.map (·.1) = xs.map (·.1) ∧ (∀ p ∈ kvs, keyN p.2.1 = some p.1) ∧
      DVs K ρ H (kvs.map (·.2.1)) (xs.map fun x => V.ref x.2.1) ∧ DVs K ρ H (kvs.map (·.2.2)) vs ∧ Vals vs (xs.map (·.2.2)) := by
  obtain ⟨a, h1, xs, vs, h2⟩ := r.ok n _ hm
  cases hv with
  | loc h => rw [h] at h1; cases h1; exact ⟨_, xs, vs, rfl, h, h2⟩
theorem keys_are (I : L2.Inv X pins σ H s) : ∀ {kvs : List (NestedKey × Dv × Dv)} {xs : List (NestedKey × Addr × Value)}, kvs.map (·.1) = xs.map (·.1) → (∀ p ∈ kvs, keyN p.2.1 = some p.1) → DVs X.K ρ H (kvs.map (·.2.1)) (xs.map fun x => V.ref x.2.1) →
    ∀ x ∈ xs, (nestedKind X.prog X.w).is s.heap x.1 x.2.1
  | [], [], _, _, _ => fun x hx => by simp at hx
  | [], _ :: _, e, _, _ => by cases e
  | _ :: _, [], e, _, _ => by cases e
  | p :: kvs, q :: xs, e, hk, h => by
    simp only [List.map_cons, List.cons.injEq] at e
    cases h with
    | cons h1 h2 =>
      intro x hx
      rcases List.mem_cons.mp hx with rfl | hx
      · obtain ⟨b, e1, e2, z⟩ := key_is I h1 (show RelV (.ref x.2.1) (.ref x.2.1) from rfl) (hk p (List.mem_cons_self ..))
        cases e1
        rw [← e.1]; exact z
      · exact keys_are I e.2 (fun y hy => hk y (List.mem_cons_of_mem _ hy)) h2 x hx
/-- the dict in the heap -/
theorem dn_of (I : L2.Inv X pins σ H s) (hp : ct.prg = X.prog) (hw : ct.wd = X.w) {a : Addr} {kvs : List (NestedKey × Dv × Dv)} {xs : List (NestedKey × Addr × Value)} (h : H a = some (NDic ct.prg ct.wd a xs)) (h1 : kvs.map (·.1) = xs.map (·.1))
    (h2 : ∀ p ∈ kvs, keyN p.2.1 = some p.1) (h3 : DVs X.K ρ H (kvs.map (·.2.1)) (xs.map fun x => V.ref x.2.1)) : s.heap.DictOfH (nestedKind X.prog X.w) a xs ∧ xs.length ≤ sizeLine ∧ (a == sysModules) = false := by
  rw [hp, hw] at h
  obtain ⟨o, es, ep, g1, g2, g3, g4, g5, g6, g7⟩ := (I.hok a _ h).1
  exact ⟨⟨o, es, ep, g1, g2, g3, g4, keys_are I h1 h2 h3, g5⟩, g6, g7⟩
theorem ndic_new {P : Program} {w : World} {h : Heap} {a : Addr} {xs : List (NestedKey × Addr × Value)} (d : h.DictOfH (nestedKind P w) a xs) (z : xs.length ≤ sizeLine) (hs : (a == sysModules) = false) : ObjOk P w H h a (NDic P w a xs) := by
  obtain ⟨o, es, ep, g1, g2, g3, g4, _, g5⟩ := d
  refine ⟨⟨o, es, ep, g1, g2, g3, g4, g5, z, hs⟩, ⟨o, g1⟩, fun h1 h2 p k => ?_⟩
  obtain ⟨o, es, ep, g1, r⟩ := p
  exact ⟨o, es, ep, k o g1, r⟩
/-- an empty dict is one with such keys, too -/
theorem dn_empty (I : L2.Inv X pins σ H s) {a : Addr} (h : H a = some (.dK [])) : s.heap.DictOfH (nestedKind X.prog X.w) a [] ∧ (a == sysModules) = false := by
  obtain ⟨_, hd, vs, r, dd⟩ := dk_of I.hok h
  cases r
  obtain ⟨o, es, ep, g1, g2, g3, g4, g5, g6⟩ := dd
  refine ⟨⟨o, es, ep, g1, g2, g3, ?_, fun x hx => by simp at hx, List.nodup_nil⟩, hd⟩
  cases hes : es.toList with
  | nil => rfl
  | cons e r =>
    rw [hes] at g5
    cases g5
theorem val_ofN {K : Frg} {k : NestedKey} : ∀ {kvs : List (NestedKey × Dv × Dv)} {xs : List (NestedKey × Addr × Value)} {vs : List V}, kvs.map (·.1) = xs.map (·.1) → DVs K ρ H (kvs.map (·.2.2)) vs → Vals vs (xs.map (·.2.2)) →
    (∀ d, valN kvs k = some d → ∃ p v, atKey xs k = some p ∧ DV K ρ H d v ∧ RelV v p.2) ∧ (valN kvs k = none → atKey xs k = none)
  | [], [], _, _, _, _ => ⟨fun d e => (by cases e), fun _ => rfl⟩
  | [], _ :: _, _, e, _, _ => by cases e
  | _ :: _, [], _, e, _, _ => by cases e
  | p :: kvs, q :: xs, _, e, h, r => by
    simp only [List.map_cons, List.cons.injEq] at e
    cases h with
    | cons h1 h2 =>
      cases r with
      | cons r1 r2 =>
        obtain ⟨i1, i2⟩ := val_ofN (k := k) e.2 h2 r2
        unfold valN atKey
        rw [List.find?_cons, List.find?_cons]
        by_cases z : p.1 = k
        · rw [decide_eq_true z, decide_eq_true (e.1 ▸ z)]
          exact ⟨fun d ed => ⟨_, _, rfl, by simp at ed; rw [← ed]; exact h1, r1⟩, fun ed => by simp at ed⟩
        · rw [decide_eq_false z, decide_eq_false (fun y => z (e.1.trans y))]
          exact ⟨i1, i2⟩
theorem some_ofN {K : Frg} {k : NestedKey} {kvs : List (NestedKey × Dv × Dv)} {xs : List (NestedKey × Addr × Value)} {vs : List V} (e : kvs.map (·.1) = xs.map (·.1)) (h : DVs K ρ H (kvs.map (·.2.2)) vs) (r : Vals vs (xs.map (·.2.2))) : (atKey xs k).isSome = (valN kvs k).isSome := by
  obtain ⟨i1, i2⟩ := val_ofN (k := k) e h r
  cases z : valN kvs k with
  | none => rw [i2 z]; rfl
  | some d => obtain ⟨p, v, e2, _⟩ := i1 d z; rw [e2]; rfl
theorem Vals.app {vs ws : List V} {us ts : List Value} (h : Vals vs us) (h' : Vals ws ts) : Vals (vs ++ ws) (us ++ ts) := h.append h'
/-- the store -/
theorem map_putN {K : Frg} {k : NestedKey} {d : Dv} {v : V} {u : Value} (hd : DV K ρ H d v) (hu : RelV v u) : ∀ {kvs : List (NestedKey × Dv × Dv)} {xs : List (NestedKey × Addr × Value)} {vs : List V}, kvs.map (·.1) = xs.map (·.1) → DVs K ρ H (kvs.map (·.2.2)) vs → Vals vs (xs.map (·.2.2)) →
    ∃ ws, (kvs.map fun kv => if kv.1 = k then (kv.1, kv.2.1, d) else kv).map (·.1) = (xs.map (putAt k u)).map (·.1) ∧ (kvs.map fun kv => if kv.1 = k then (kv.1, kv.2.1, d) else kv).map (·.2.1) = kvs.map (·.2.1) ∧
      ((xs.map (putAt k u)).map fun x => V.ref x.2.1) = (xs.map fun x => V.ref x.2.1) ∧ DVs K ρ H ((kvs.map fun kv => if kv.1 = k then (kv.1, kv.2.1, d) else kv).map (·.2.2)) ws ∧ Vals ws ((xs.map (putAt k u)).map (·.2.2))
  | [], [], _, _, h, r => by cases h; exact ⟨[], rfl, rfl, rfl, .nil, .nil⟩
  | [], _ :: _, _, e, _, _ => by cases e
  | _ :: _, [], _, e, _, _ => by cases e
  | p :: kvs, q :: xs, _, e, h, r => by
    simp only [List.map_cons, List.cons.injEq] at e
    cases h with
    | cons h1 h2 =>
      cases r with
      | cons r1 r2 =>
        rename_i v0 vs0
        obtain ⟨ws, i1, i2, i3, i4, i5⟩ := map_putN (k := k) hd hu e.2 h2 r2
        simp only [List.map_cons]
        by_cases z : p.1 = k
        · have z2 : q.1 = k := e.1 ▸ z
          refine ⟨v :: ws, ?_, ?_, ?_, ?_, ?_⟩
          · rw [if_pos z, i1]; unfold putAt; rw [if_pos z2, e.1]
          · rw [if_pos z, i2]
          · rw [i3]; unfold putAt; rw [if_pos z2]
          · rw [if_pos z]; exact .cons hd i4
          · unfold putAt; rw [if_pos z2]; exact .cons hu i5
        · have z2 : ¬ q.1 = k := fun y => z (e.1.trans y)
          refine ⟨v0 :: ws, ?_, ?_, ?_, ?_, ?_⟩
          · rw [if_neg z, i1]; unfold putAt; rw [if_neg z2, e.1]
          · rw [if_neg z, i2]
          · rw [i3]; unfold putAt; rw [if_neg z2]
          · rw [if_neg z]; exact .cons h1 i4
          · unfold putAt; rw [if_neg z2]; exact .cons r1 i5
theorem put_ofN {K : Frg} {k : NestedKey} {kd d : Dv} {b : Addr} {v : V} {u : Value} {kvs : List (NestedKey × Dv × Dv)} {xs : List (NestedKey × Addr × Value)} {vs : List V} (hk : keyN kd = some k) (hkd : DV K ρ H kd (.ref b)) (hd : DV K ρ H d v) (hu : RelV v u)
    (h1 : kvs.map (·.1) = xs.map (·.1)) (h2 : ∀ p ∈ kvs, keyN p.2.1 = some p.1) (h3 : DVs K ρ H (kvs.map (·.2.1)) (xs.map fun x => V.ref x.2.1)) (h4 : DVs K ρ H (kvs.map (·.2.2)) vs) (h5 : Vals vs (xs.map (·.2.2))) :
    ∃ ws, (putN kvs k kd d).map (·.1) = (storedH xs k b u).map (·.1) ∧ (∀ p ∈ putN kvs k kd d, keyN p.2.1 = some p.1) ∧ DVs K ρ H ((putN kvs k kd d).map (·.2.1)) ((storedH xs k b u).map fun x => V.ref x.2.1) ∧
      DVs K ρ H ((putN kvs k kd d).map (·.2.2)) ws ∧ Vals ws ((storedH xs k b u).map (·.2.2)) := by
  unfold putN storedH
  rw [some_ofN h1 h4 h5]
  cases z : (valN kvs k).isSome with
  | true =>
    rw [if_pos rfl, if_pos rfl]
    obtain ⟨ws, i1, i2, i3, i4, i5⟩ := map_putN (k := k) hd hu h1 h4 h5
    refine ⟨ws, i1, fun p hp => ?_, ?_, i4, i5⟩
    · obtain ⟨q, hq, rfl⟩ := List.mem_map.mp hp
      split
      · exact h2 q hq
      · exact h2 q hq
    · rw [i2, i3]; exact h3
  | false =>
    rw [if_neg (by decide), if_neg (by decide)]
    refine ⟨vs ++ [v], ?_, fun p hp => ?_, ?_, ?_, ?_⟩
    · rw [List.map_append, List.map_append, h1]; rfl
    · rcases List.mem_append.mp hp with y | y
      · exact h2 p y
      · rw [List.mem_singleton.mp y]; exact hk
    · rw [List.map_append, List.map_append]; exact h3.append (.cons hkd .nil)
    · rw [List.map_append]; exact h4.append (.cons hd .nil)
    · rw [List.map_append]; exact h5.append (.cons hu .nil)
end
end Zl

/-! text Z17 -/
namespace Zl
open PySem L2 PySem.Spec PyProof.Rows

/-! ## dicts whose keys are ints and texts -/
def keyD : Dv → Option Key
  | .int i => some (.inl i)
  | .str x => some (.inr x)
  | _ => none
def valD (kvs : List (Key × Dv)) (k : Key) : Option Dv := (kvs.find? fun kv => decide (kv.1 = k)).map (·.2)
def putDk (kvs : List (Key × Dv)) (k : Key) (v : Dv) : List (Key × Dv) :=
  if (kvs.any fun kv => decide (kv.1 = k)) = true then kvs.map (fun kv => if kv.1 = k then (kv.1, v) else kv) else kvs ++ [(k, v)]
section
variable {K : Frg} {ρ : List Addr} {H : Hp}
theorem keyD_of {d : Dv} {v : V} {k : Key} (h : DV K ρ H d v) (e : keyD d = some k) : v = kV k := by
  cases h <;> cases e <;> rfl
/-- what is found, what is not -/
theorem val_of {k : Key} : ∀ {kvs : List (Key × Dv)} {vs : List (Key × V)}, kvs.map (·.1) = vs.map (·.1) → DVs K ρ H (kvs.map (·.2)) (vs.map (·.2)) →
    (∀ d, valD kvs k = some d → ∃ v, valV vs k = some v ∧ DV K ρ H d v) ∧ (valD kvs k = none → valV vs k = none)
  | [], [], _, _ => ⟨fun d e => (by cases e), fun _ => rfl⟩
  | [], _ :: _, e, _ => by cases e
  | _ :: _, [], e, _ => by cases e
  | p :: kvs, q :: vs, e, h => by
    simp only [List.map_cons, List.cons.injEq] at e
    cases h with
    | cons h1 hr =>
      obtain ⟨i1, i2⟩ := val_of (k := k) e.2 hr
      unfold valD
      rw [List.find?_cons]
      by_cases z : p.1 = k
      · rw [decide_eq_true z]
        rw [valV_pos (e.1 ▸ z)]
        exact ⟨fun d ed => ⟨q.2, rfl, by simp at ed; rw [← ed]; exact h1⟩, fun ed => by simp at ed⟩
      · rw [decide_eq_false z]
        rw [valV_neg (fun y => z (e.1.trans y))]
        exact ⟨i1, i2⟩
theorem any_of_keys {k : Key} : ∀ {kvs : List (Key × Dv)} {vs : List (Key × V)}, kvs.map (·.1) = vs.map (·.1) → (kvs.any fun kv => decide (kv.1 = k)) = vs.any fun kv => decide (kv.1 = k)
  | [], [], _ => rfl
  | [], _ :: _, e => by cases e
  | _ :: _, [], e => by cases e
  | p :: kvs, q :: vs, e => by
    simp only [List.map_cons, List.cons.injEq] at e
    rw [List.any_cons, List.any_cons, any_of_keys e.2, e.1]
theorem map_put {k : Key} {x : Dv} {u : V} (hx : DV K ρ H x u) : ∀ {kvs : List (Key × Dv)} {vs : List (Key × V)}, kvs.map (·.1) = vs.map (·.1) → DVs K ρ H (kvs.map (·.2)) (vs.map (·.2)) →
    (kvs.map fun kv => if kv.1 = k then (kv.1, x) else kv).map (·.1) = (vs.map fun kv => if kv.1 = k then (kv.1, u) else kv).map (·.1) ∧
    DVs K ρ H ((kvs.map fun kv => if kv.1 = k then (kv.1, x) else kv).map (·.2)) ((vs.map fun kv => if kv.1 = k then (kv.1, u) else kv).map (·.2))
  | [], [], _, _ => ⟨rfl, .nil⟩
  | [], _ :: _, e, _ => by cases e
  | _ :: _, [], e, _ => by cases e
  | p :: kvs, q :: vs, e, h => by
    simp only [List.map_cons, List.cons.injEq] at e
    cases h with
    | cons h1 hr =>
      obtain ⟨i1, i2⟩ := map_put (k := k) hx e.2 hr
      simp only [List.map_cons, List.cons.injEq]
      by_cases z : p.1 = k
      · rw [if_pos z, if_pos (e.1 ▸ z)]
        exact ⟨⟨e.1, i1⟩, .cons hx i2⟩
      · rw [if_neg z, if_neg (fun y => z (e.1.trans y))]
        exact ⟨⟨e.1, i1⟩, .cons h1 i2⟩
theorem put_of {k : Key} {x : Dv} {u : V} {kvs : List (Key × Dv)} {vs : List (Key × V)} (hx : DV K ρ H x u) (e : kvs.map (·.1) = vs.map (·.1)) (h : DVs K ρ H (kvs.map (·.2)) (vs.map (·.2))) :
    (putDk kvs k x).map (·.1) = (putK vs k u).map (·.1) ∧ DVs K ρ H ((putDk kvs k x).map (·.2)) ((putK vs k u).map (·.2)) := by
  unfold putDk putK
  rw [any_of_keys e]
  split
  · exact map_put hx e h
  · rw [List.map_append, List.map_append, List.map_append, List.map_append, e]
    exact ⟨rfl, h.append (.cons hx .nil)⟩
theorem Rl.dct {ct : Ct} {M : Mem} (r : Rl K ct ρ M H) {n : Nat} {kvs : List (Key × Dv)} (hm : M[n]? = some (.dct kvs)) {v : V} (hv : DV K ρ H (.loc n) v) :
    ∃ a vs, v = .ref a ∧ ρ[n]? = some a ∧ H a = some (.dK vs) ∧ kvs.map (·.1) = vs.map (·.1) ∧ DVs K ρ H (kvs.map (·.2)) (vs.map (·.2)) := by
  obtain ⟨a, h1, vs, h2, h3, h4⟩ := r.ok n _ hm
  cases hv with
  | loc h => rw [h] at h1; cases h1; exact ⟨_, vs, rfl, h, h2, h3, h4⟩
end
theorem Rl.st {K : Frg} {ρ : List Addr} {H : Hp} {ct : Ct} {M : Mem} (r : Rl K ct ρ M H) {n : Nat} {xs : List Int} (hm : M[n]? = some (.st xs)) {v : V} (hv : DV K ρ H (.loc n) v) :
    ∃ a, v = .ref a ∧ ρ[n]? = some a ∧ H a = some (.set (fun k => xs.any (· == k)) xs.length) := by
  obtain ⟨a, h1, h2⟩ := r.ok n _ hm
  cases hv with
  | loc h => rw [h] at h1; cases h1; exact ⟨_, rfl, h, h2⟩
section
variable {X : Cx} {ct : Ct} {pos : Pos} {e o i' : Expr} {fo fe fi : FE}
/-- {} -/
def fDNew : FE := fun _ M => some (.loc M.length, M ++ [.dct []])
theorem se_dnew : SE X ct (.Dict [] [] pos) fDNew := PE.imp pe_dnewK fun σ H Q ⟨ρ, M, env, r, he, d, M', hf, hq⟩ p hp => by
  cases hf
  obtain ⟨r2, e2, h2⟩ := r.new (o := .dct []) (o' := .dK []) hp ⟨[], upd_same, rfl, .nil⟩
  exact hq _ _ e2 r2 _ (.loc h2)
/-- k in d, too -/
def inE (neg : Bool) (x y : Dv) (M : Mem) : Rz := match y with
  | .loc n => match M[n]? with
    | some (.dct kvs) => match keyD x with
      | some k => some (.bl (xor neg (valD kvs k).isSome), M)
      | none => match kvs with
        | [] => match keyN x with
          | some _ => some (.bl (xor neg false), M)
          | none => none
        | _ => none
    | some (.dcn kvs) => match keyN x with
      | some k => some (.bl (xor neg (valN kvs k).isSome), M)
      | none => none
    | _ => inD neg x y M
  | _ => inD neg x y M
theorem room_n (hu : X.A.units + 65 < cLine) : (nestedKind X.prog X.w).room X.A.in1 := by
  show X.A.units + 1 + 8 < cLine
  omega
theorem dget_of {K : Frg} {ρ : List Addr} {H : Hp} {a : Addr} {kvs : List (Key × Dv)} {vs : List (Key × V)} {k : Key} (h2 : H a = some (.dK vs)) (h3 : kvs.map (·.1) = vs.map (·.1)) (h4 : DVs K ρ H (kvs.map (·.2)) (vs.map (·.2))) : (valV vs k).isSome = (valD kvs k).isSome := by
  obtain ⟨i1, i2⟩ := val_of (k := k) h3 h4
  cases e : valD kvs k with
  | none => rw [i2 e]; rfl
  | some d => obtain ⟨v, e2, _⟩ := i1 d e; rw [e2]; rfl
theorem so_inE (hu : X.A.units + 65 < cLine) (hp : ct.prg = X.prog := by rfl) (hw : ct.wd = X.w := by rfl) : SO X ct (compareOp .In) (inE false) := by
  intro pins s σ H x y v u Q I rx ry h
  obtain ⟨ρ, M, d, e, r, dx, dy, z, M', hf, hq⟩ := h
  have old : inD false d e M = some (z, M') → wpAny (model X.prog X.w) X.A (compareOp .In v u) (EP X pins σ Q) X.xe s := fun hf => so_in hu pins s σ H x y v u Q I rx ry ⟨ρ, M, d, e, r, dx, dy, z, M', hf, hq⟩
  unfold inE at hf
  split at hf
  · split at hf
    · rename_i kvs hm
      split at hf
      · rename_i k hk
        cases hf
        obtain ⟨a, vs, rfl, a1, a2, a3, a4⟩ := r.dct hm dy
        obtain rfl := keyD_of dx hk
        obtain rfl : u = Value.ref a := ry
        refine d_in (by omega) I (DGet.k a2) rx fun s' I' => ⟨.bl (valV vs k).isSome, H, I', rfl, hq ρ H .refl r _ ?_⟩
        rw [dget_of a2 a3 a4, Bool.false_xor]; exact .bl _
      · split at hf
        · split at hf
          · rename_i k hk
            cases hf
            obtain ⟨a, vs, rfl, a1, a2, a3, a4⟩ := r.dct hm dy
            have ev : vs = [] := List.length_eq_zero_iff.mp (by have := congrArg List.length a3; simpa using this.symm)
            subst ev
            obtain rfl : u = Value.ref a := ry
            obtain ⟨b, rfl, rfl, ki⟩ := key_is I dx rx hk
            obtain ⟨dd, ds⟩ := dn_empty I a2
            exact wpAny_in_heap (room_n hu) ki ds dd ⟨.bl false, H, I.tok _, rfl, hq ρ H .refl r _ (.bl _)⟩
          · cases hf
        · cases hf
    · rename_i kvs hm
      split at hf
      · rename_i k hk
        cases hf
        obtain ⟨a, xs, vs, rfl, a1, a2, a3, a4, a5, a6, a7⟩ := r.dcn hm dy
        obtain rfl : u = Value.ref a := ry
        obtain ⟨b, rfl, rfl, ki⟩ := key_is I dx rx hk
        obtain ⟨dd, _, ds⟩ := dn_of I hp hw a2 a3 a4 a5
        refine wpAny_in_heap (room_n hu) ki ds dd ⟨.bl (atKey xs k).isSome, H, I.tok _, rfl, hq ρ H .refl r _ ?_⟩
        rw [some_ofN a3 a6 a7, Bool.false_xor]; exact .bl _
      · cases hf
    · exact old hf
  · exact old hf
theorem so_notinE (hu : X.A.units + 65 < cLine) (hp : ct.prg = X.prog := by rfl) (hw : ct.wd = X.w := by rfl) : SO X ct (compareOp .NotIn) (inE true) := by
  intro pins s σ H x y v u Q I rx ry h
  obtain ⟨ρ, M, d, e, r, dx, dy, z, M', hf, hq⟩ := h
  have old : inD true d e M = some (z, M') → wpAny (model X.prog X.w) X.A (compareOp .NotIn v u) (EP X pins σ Q) X.xe s := fun hf => so_notin hu pins s σ H x y v u Q I rx ry ⟨ρ, M, d, e, r, dx, dy, z, M', hf, hq⟩
  unfold inE at hf
  split at hf
  · split at hf
    · rename_i kvs hm
      split at hf
      · rename_i k hk
        cases hf
        obtain ⟨a, vs, rfl, a1, a2, a3, a4⟩ := r.dct hm dy
        obtain rfl := keyD_of dx hk
        obtain rfl : u = Value.ref a := ry
        refine d_notIn (by omega) I (DGet.k a2) rx fun s' I' => ⟨.bl (!(valV vs k).isSome), H, I', rfl, hq ρ H .refl r _ ?_⟩
        rw [dget_of a2 a3 a4, Bool.true_xor]; exact .bl _
      · split at hf
        · split at hf
          · rename_i k hk
            cases hf
            obtain ⟨a, vs, rfl, a1, a2, a3, a4⟩ := r.dct hm dy
            have ev : vs = [] := List.length_eq_zero_iff.mp (by have := congrArg List.length a3; simpa using this.symm)
            subst ev
            obtain rfl : u = Value.ref a := ry
            obtain ⟨b, rfl, rfl, ki⟩ := key_is I dx rx hk
            obtain ⟨dd, ds⟩ := dn_empty I a2
            refine notIn_keyed (kvs := []) (room_n hu) ki ds ⟨[], dd, rfl⟩ ⟨.bl true, H, I.tok _, rfl, hq ρ H .refl r _ (.bl _)⟩
          · cases hf
        · cases hf
    · rename_i kvs hm
      split at hf
      · rename_i k hk
        cases hf
        obtain ⟨a, xs, vs, rfl, a1, a2, a3, a4, a5, a6, a7⟩ := r.dcn hm dy
        obtain rfl : u = Value.ref a := ry
        obtain ⟨b, rfl, rfl, ki⟩ := key_is I dx rx hk
        obtain ⟨dd, _, ds⟩ := dn_of I hp hw a2 a3 a4 a5
        refine notIn_keyed (room_n hu) ki ds ⟨xs, dd, rfl⟩ ⟨.bl (!(valueAt (pairsH xs) k).isSome), H, I.tok _, rfl, hq ρ H .refl r _ ?_⟩
        rw [valueAt_pairsH, Option.isSome_map, some_ofN a3 a6 a7, Bool.true_xor]; exact .bl _
      · cases hf
    · exact old hf
  · exact old hf
/-- d[k], too -/
def ixE (x y : Dv) (M : Mem) : Rz := match x with
  | .loc n => match M[n]? with
    | some (.dct kvs) => match keyD y with
      | some k => match valD kvs k with
        | some d => some (d, M)
        | none => none
      | none => none
    | some (.dcn kvs) => match keyN y with
      | some k => match valN kvs k with
        | some d => some (d, M)
        | none => none
      | none => none
    | _ => ixD x y M
  | _ => ixD x y M
theorem sx_E (hu : X.A.units + 65 < cLine) (hp : ct.prg = X.prog) (hw : ct.wd = X.w) : IxR X (tO X.K ct ixE) := by
  intro value slice pins s σ H x y v u Q I rx ry h hsub
  obtain ⟨ρ, M, d, e, r, dx, dy, z, M', hf, hq⟩ := h
  have old : ixD d e M = some (z, M') → wpAny (model X.prog X.w) X.A (subscriptTail value slice v u) (EP X pins σ Q) X.xe s := fun hf => sx_seq value slice pins s σ H x y v u Q I rx ry ⟨ρ, M, d, e, r, dx, dy, z, M', hf, hq⟩ hsub
  unfold ixE at hf
  split at hf
  · split at hf
    · rename_i kvs hm
      split at hf
      · rename_i k hk
        split at hf
        · rename_i d' hd
          cases hf
          obtain ⟨a, vs, rfl, a1, a2, a3, a4⟩ := r.dct hm dx
          obtain rfl := keyD_of dy hk
          obtain rfl : v = Value.ref a := rx
          obtain ⟨w, e2, dw⟩ := (val_of (k := k) a3 a4).1 _ hd
          have g : DGet H a (kV k) (some w) := e2 ▸ DGet.k a2
          exact tail_any (dict_typeIs I g) PySem.F.slot_dict_getitem.lookup (d_getItem (by omega) I g ry fun w' s' I' rw' => ⟨w, H, I', rw', hq ρ H .refl r _ dw⟩) hsub
        · cases hf
      · cases hf
    · rename_i kvs hm
      split at hf
      · rename_i k hk
        split at hf
        · rename_i d' hd
          cases hf
          obtain ⟨a, xs, vs, rfl, a1, a2, a3, a4, a5, a6, a7⟩ := r.dcn hm dx
          obtain rfl : v = Value.ref a := rx
          obtain ⟨b, rfl, rfl, ki⟩ := key_is I dy ry hk
          obtain ⟨dd, _, ds⟩ := dn_of I hp hw a2 a3 a4 a5
          obtain ⟨p, w, e2, dw, rw'⟩ := (val_ofN (k := k) a3 a6 a7).1 _ hd
          exact tail_any dd.typeIs PySem.F.slot_dict_getitem.lookup (wpAny_getItem_heap (room_n hu) ki dd e2 ⟨w, H, I.tok _, rw', hq ρ H .refl r _ dw⟩) hsub
        · cases hf
      · cases hf
    · exact old hf
  · exact old hf
theorem se_ixE {a b : Expr} {fa fb : FE} (hu : X.A.units + 65 < cLine) (ha : SE X ct a fa) (hb : SE X ct b fb) (hs : PlainIx b := by intro _ _; rfl) (hp : ct.prg = X.prog := by rfl) (hw : ct.wd = X.w := by rfl) : SE X ct (.Subscript a b pos) (fO ixE fa fb) :=
  PE.imp (pe_ix (sx_E hu hp hw) ha hb hs) fun _ _ _ w => op_imp w
/-- len(d), too -/
def lenE : List Dv → Mem → Rz
  | [.loc n], M => match M[n]? with
    | some (.dct kvs) => some (.int (kvs.length : Nat), M)
    | some (.dcn kvs) => some (.int (kvs.length : Nat), M)
    | some (.st xs) => some (.int (xs.length : Nat), M)
    | _ => lenD [.loc n] M
  | ds, M => lenD ds M
theorem sc_lenE : SC X ct (.builtin "len") lenE := by
  intro pins s σ H xs us Q I rv h
  obtain ⟨ρ, M, ds, r, dv, z, M', hf, hq⟩ := h
  unfold lenE at hf
  split at hf
  · split at hf
    · rename_i kvs hm
      cases hf
      obtain ⟨v, rfl, d1⟩ := dvs_one dv
      obtain ⟨a, vs, rfl, a1, a2, a3, a4⟩ := r.dct hm d1
      refine call_lenD pins s σ H _ us Q I rv ⟨a, vs, rfl, a2, hq ρ H .refl r _ ?_⟩
      have : kvs.length = vs.length := by have := congrArg List.length a3; simpa using this
      rw [this]; exact .int _
    · rename_i kvs hm
      cases hf
      obtain ⟨v, rfl, d1⟩ := dvs_one dv
      obtain ⟨a, xs, vs, rfl, a1, a2, a3, a4⟩ := r.dcn hm d1
      obtain ⟨u, rfl, ru⟩ := vals1 rv
      cases ru
      obtain ⟨o, es, ep, g1, g2, g3, g4, g5, g6, g7⟩ := (I.hok a _ a2).1
      have hl : es.size = kvs.length := by
        have := size_of_entries g4
        have h2 := congrArg List.length a3
        simp only [List.length_map] at h2
        omega
      have raw : s.heap.DictRaw a es ep := ⟨o, g1, g2, g3⟩
      have h62 : sizeLine < 2 ^ 62 := by decide
      refine PyProof.Rows.call_len_slot (n := (kvs.length : Int)) raw.typeIs F.slot_dict_len (fun Q' h => call_len_raw g7 raw (by rw [hl]; exact h)) (by omega) (by
          have h2 := congrArg List.length a3
          simp only [List.length_map] at h2
          omega) ?_
      exact ⟨.int kvs.length, H, I.tok _, ⟨_, rfl⟩, hq ρ H .refl r _ (.int _)⟩
    · rename_i zs hm
      cases hf
      obtain ⟨v, rfl, d1⟩ := dvs_one dv
      obtain ⟨a, rfl, a1, a2⟩ := r.st hm d1
      obtain ⟨u, rfl, ru⟩ := vals1 rv
      cases ru
      obtain ⟨o, es, ep, t, g1, g2, g3, g4, g5, g6, g7, g8⟩ := (show s.heap.SetOf (intKind X.prog X.w) a _ _ from I.hok a _ a2)
      refine call_len_set g1 g2 g3 g7 (by
          have h62 : scanBound < 2 ^ 62 := by decide
          omega) ?_
      rw [g8]
      exact ⟨.int zs.length, H, I.tok _, ⟨_, rfl⟩, hq ρ H .refl r _ (.int _)⟩
    · exact sc_len pins s σ H xs us Q I rv ⟨ρ, M, _, r, dv, z, M', hf, hq⟩
  · exact sc_len pins s σ H xs us Q I rv ⟨ρ, M, _, r, dv, z, M', hf, hq⟩
/-- d[k] = v, too -/
def setE (o i v : Dv) (M : Mem) : Option Mem := match o with
  | .loc n => match M[n]? with
    | some (.dct kvs) => match keyD i with
      | some k => if kvs.length < sizeLine then some (M.set n (.dct (putDk kvs k v))) else none
      | none => match kvs with
        | [] => match keyN i with
          | some k => some (M.set n (.dcn (putN [] k i v)))
          | none => none
        | _ => none
    | some (.dcn kvs) => match keyN i with
      | some k => if kvs.length < sizeLine then some (M.set n (.dcn (putN kvs k i v))) else none
      | none => none
    | _ => setD o i v M
  | _ => setD o i v M
/-- the store of a nested key, by what is known -/
def rSetN (X : Cx) : TSet := fun o i v H Q => ∃ (ρ : List Addr) (a : Addr) (kvs : List (NestedKey × Dv × Dv)) (xs : List (NestedKey × Addr × Value)) (kd : Dv) (k : NestedKey), o = .ref a ∧ (H a = some (NDic X.prog X.w a xs) ∨ (xs = [] ∧ H a = some (.dK []))) ∧
  kvs.map (·.1) = xs.map (·.1) ∧ (∀ p ∈ kvs, keyN p.2.1 = some p.1) ∧ DVs X.K ρ H (kvs.map (·.2.1)) (xs.map fun x => V.ref x.2.1) ∧ keyN kd = some k ∧ DV X.K ρ H kd i ∧ xs.length < sizeLine ∧
  ∀ b u, i = .ref b → RelV v u → Q (upd H a (NDic X.prog X.w a (storedH xs k b u)))
theorem set_dictN (hu : X.A.units + 65 < cLine) : PSet X (rSetN X) := by
  intro pins s σ H o i v ov iv u Q I ro ri rv h
  obtain ⟨ρ, a, kvs, xs, kd, k, rfl, h0, h1, h2, h3, hk, hkd, hl, q⟩ := h
  cases (show ov = Value.ref a from ro)
  obtain ⟨b, rfl, rfl, ki⟩ := key_is I hkd ri hk
  have key : s.heap.DictOfH (nestedKind X.prog X.w) a xs ∧ (a == sysModules) = false ∧ Mut (H a) := by
    rcases h0 with h0 | ⟨rfl, h0⟩
    · obtain ⟨o, es, ep, g1, g2, g3, g4, g5, g6, g7⟩ := (I.hok a _ h0).1
      exact ⟨⟨o, es, ep, g1, g2, g3, g4, keys_are I h1 h2 h3, g5⟩, g7, by rw [h0]; trivial⟩
    · obtain ⟨dd, ds⟩ := dn_empty I h0
      exact ⟨dd, ds, by rw [h0]; trivial⟩
  obtain ⟨dd, ds, mu⟩ := key
  refine wpAny_setItem_heap (hsz := by omega) (room_n hu) ki dd fun h' dd' sb => ?_
  have he : ∃ u, h'.get? a = some u := by
    obtain ⟨o, _, _, ho, _⟩ := dd'
    exact ⟨o, ho⟩
  have hlen : (storedH xs k b u).length ≤ sizeLine := by
    have := storedH_length xs k b u
    omega
  exact ⟨_, I.write (e := a) (t' := s.toks + (nestedKind X.prog X.w).draws k) mu (.inl rfl) (fun b u hb hu => (sb.2 b hb).trans hu) he (ndic_new dd' hlen ds), q b u rfl rv⟩
def gSE (fo fi : FE) : FG := fun d env M => bnd (fo env M) fun o M1 => bnd (fi env M1) fun i M2 => match setE o i d M2 with
  | some M3 => some (env, M3)
  | none => none
theorem PSet.or {r r' : TSet} (h : PSet X r) (h' : PSet X r') : PSet X (fun o i v H Q => r o i v H Q ∨ r' o i v H Q) := fun pins s σ H o i v ov iv u Q I ro ri rv w => w.elim (h pins s σ H o i v ov iv u Q I ro ri rv) (h' pins s σ H o i v ov iv u Q I ro ri rv)
theorem sg_subE {ws : List Nat} (hu : X.A.units + 65 < cLine) (ho : SE X ct o fo) (hi : SE X ct i' fi) (hp : ct.prg = X.prog := by rfl) (hw : ct.wd = X.w := by rfl)
    (ha : ∀ v, assign (.Subscript o i' pos) X.env v = (do
      let ov ← holding [v] (eval o X.env)
      let iv ← holding [v, ov] (eval i' X.env)
      standAt pos
      holding [v, ov, iv] (setItem ov iv v)
      release [v, ov, iv] []) := by intro _; rfl) : SG X ct ws (.Subscript o i' pos) (gSE fo fi) :=
  PG.imp (pg_sub ho hi (PSet.or (PSet.or set_list (set_dict (by omega))) (set_dictN hu)) ha) fun v σ H Q ⟨ρ, M, env, d, r, he, dv, env', M', hf, hq⟩ => by
    obtain ⟨x, M1, h1, hf⟩ := bnd_some hf
    obtain ⟨y, M2, h2, hf⟩ := bnd_some hf
    refine ⟨ρ, M, env, r, he, x, M1, h1, fun ρ1 H1 e1 r1 w dw => ⟨ρ1, M1, env, r1, he.mono e1, y, M2, h2, fun ρ2 H2 e2 r2 u du => ?_⟩⟩
    split at hf
    · rename_i M3 hs
      cases hf
      have old : setD x y d M2 = some M' → (rSetL w u v H2 fun H' => Q σ H') := fun hs => by
        unfold setD at hs
        split at hs
        · split at hs
          · rename_i hm
            split at hs
            · rename_i j hj
              cases hs
              obtain ⟨a, vs, rfl, a1, a2, a3⟩ := r2.lst hm (dw.mono e2)
              cases du
              obtain ⟨r3, e3⟩ := r2.putL a1 (a3.set ((dv.mono e1).mono e2) j)
              exact ⟨a, vs, _, j, rfl, rfl, a2, by rw [← a3.length]; exact hj, hq ρ2 _ ((e1.trans e2).trans e3) r3 σ (((he.mono e1).mono e2).mono e3) .refl⟩
            · cases hs
          · cases hs
        · cases hs
      unfold setE at hs
      split at hs
      · split at hs
        · rename_i kvs hm
          split at hs
          · rename_i k hk
            split at hs
            · rename_i hl
              cases hs
              obtain ⟨a, vs, rfl, a1, a2, a3, a4⟩ := r2.dct hm (dw.mono e2)
              obtain rfl := keyD_of du hk
              have hlen : kvs.length = vs.length := by have := congrArg List.length a3; simpa using this
              obtain ⟨p1, p2⟩ := put_of (k := k) ((dv.mono e1).mono e2) a3 a4
              obtain ⟨oo, hm', hk'⟩ := r2.addr a1
              obtain ⟨r3, e3⟩ := r2.put (o := .dct (putDk kvs k d)) (o' := .dK (putK vs k v)) a1 ⟨_, upd_same, p1, p2.mono (Ext.soft (fun _ _ h => h) hk'.soft.1 hk'.soft.2)⟩
              exact .inl (.inr ⟨a, _, rfl, DPut.k a2 (hlen ▸ hl), hq ρ2 _ ((e1.trans e2).trans e3) r3 σ (((he.mono e1).mono e2).mono e3) .refl⟩)
            · cases hs
          · split at hs
            · split at hs
              · rename_i k hk
                cases hs
                obtain ⟨a, vs, rfl, a1, a2, a3, a4⟩ := r2.dct hm (dw.mono e2)
                have ev : vs = [] := List.length_eq_zero_iff.mp (by have := congrArg List.length a3; simpa using this.symm)
                subst ev
                refine .inr ⟨ρ2, a, [], [], y, k, rfl, .inr ⟨rfl, a2⟩, rfl, fun p hp => by simp at hp, .nil, hk, du, by decide, fun b u' eb ru => ?_⟩
                subst eb
                obtain ⟨ws', p1, p2, p3, p4, p5⟩ := put_ofN (kvs := []) (xs := []) (vs := []) hk du ((dv.mono e1).mono e2) ru rfl (fun p hp => by simp at hp) .nil .nil .nil
                obtain ⟨oo, hm', hk'⟩ := r2.addr a1
                have sf : Ext X.K ρ2 H2 ρ2 (upd H2 a (NDic X.prog X.w a (storedH [] k b u'))) := Ext.soft (fun _ _ h => h) hk'.soft.1 hk'.soft.2
                obtain ⟨r3, e3⟩ := r2.put (o := .dcn (putN [] k y d)) (o' := NDic X.prog X.w a (storedH [] k b u')) a1 ⟨_, ws', by rw [upd_same, hp, hw], p1, p2, p3.mono sf, p4.mono sf, p5⟩
                exact hq ρ2 _ ((e1.trans e2).trans e3) r3 σ (((he.mono e1).mono e2).mono e3) .refl
              · cases hs
            · cases hs
        · rename_i kvs hm
          split at hs
          · rename_i k hk
            split at hs
            · rename_i hl
              cases hs
              obtain ⟨a, xs, vs, rfl, a1, a2, a3, a4, a5, a6, a7⟩ := r2.dcn hm (dw.mono e2)
              have hlen : kvs.length = xs.length := by have := congrArg List.length a3; simpa using this
              refine .inr ⟨ρ2, a, kvs, xs, y, k, rfl, .inl (by rw [a2, hp, hw]), a3, a4, a5, hk, du, hlen ▸ hl, fun b u' eb ru => ?_⟩
              subst eb
              obtain ⟨ws', p1, p2, p3, p4, p5⟩ := put_ofN hk du ((dv.mono e1).mono e2) ru a3 a4 a5 a6 a7
              obtain ⟨oo, hm', hk'⟩ := r2.addr a1
              have sf : Ext X.K ρ2 H2 ρ2 (upd H2 a (NDic X.prog X.w a (storedH xs k b u'))) := Ext.soft (fun _ _ h => h) hk'.soft.1 hk'.soft.2
              obtain ⟨r3, e3⟩ := r2.put (o := .dcn (putN kvs k y d)) (o' := NDic X.prog X.w a (storedH xs k b u')) a1 ⟨_, ws', by rw [upd_same, hp, hw], p1, p2, p3.mono sf, p4.mono sf, p5⟩
              exact hq ρ2 _ ((e1.trans e2).trans e3) r3 σ (((he.mono e1).mono e2).mono e3) .refl
            · cases hs
          · cases hs
        · exact .inl (.inl (old hs))
      · exact .inl (.inl (old hs))
    · cases hf
/-- d.get(k) -/
def fDGet (fo fe : FE) : FE := fun env M => bnd (fo env M) fun d M1 => match d with
  | .loc n => match M1[n]? with
    | some (.dct _) => bnd (fe env M1) fun y M2 => match M2[n]?, keyD y with
      | some (.dct kvs), some k => some ((valD kvs k).getD .non, M2)
      | _, _ => none
    | _ => none
  | _ => none
theorem se_dget {apos cpos : Pos} (hu : X.A.units + 65 < cLine) (ho : SE X ct o fo) (he : SE X ct e fe) (m : M1 X o "get" apos e cpos) : SE X ct (.Call (.Attribute o "get" apos) [e] [] cpos) (fDGet fo fe) :=
  PE.imp (pe_dget1 (by omega) ho he m) fun σ H Q ⟨ρ, M, env, r, hen, d, M', hf, hq⟩ => by
    obtain ⟨x, N1, h1, hf⟩ := bnd_some hf
    refine ⟨ρ, M, env, r, hen, x, N1, h1, fun ρ1 H1 e1 r1 w dw => ?_⟩
    split at hf
    · split at hf
      · rename_i hm
        obtain ⟨a, vs, rfl, a1, a2, a3, a4⟩ := r1.dct hm dw
        obtain ⟨y, N2, h2, hf⟩ := bnd_some hf
        refine ⟨a, rfl, .inl ⟨vs, .inl a2⟩, ρ1, N1, env, r1, hen.mono e1, y, N2, h2, fun ρ2 H2 e2 r2 u du => ?_⟩
        split at hf
        · rename_i kvs k hm2 hk
          cases hf
          obtain ⟨b, vs2, eb, b1, b2, b3, b4⟩ := r2.dct hm2 (dw.mono e2)
          cases eb
          obtain rfl := keyD_of du hk
          refine ⟨_, DGet.k b2, hq ρ2 H2 (e1.trans e2) r2 _ ?_⟩
          obtain ⟨i1, i2⟩ := val_of (k := k) b3 b4
          cases ev : valD kvs k with
          | none => rw [i2 ev]; exact .non
          | some dd => obtain ⟨v, e3, dv⟩ := i1 dd ev; rw [e3]; exact dv
        · cases hf
      · cases hf
    · cases hf
end
end Zl

/-! text Z18 -/
namespace Zl
open PySem L2 PySem.Spec PyProof.Rows
/-! ## range, counting down -/
section
variable {X : Cx} {ct : Ct} {pos p : Pos} {tg a b c : Expr} {fa fb fc : FE}
def srcC (lo c : Int) (n : Nat) : Src := ⟨n, fun i _ => if i < n then some (some (.int (lo + i * c))) else some none⟩
theorem feeds_rngC {K : Frg} {ρ0 : List Addr} {H0 : Hp} {lo c : Int} {n : Nat} : Feeds K ct ρ0 H0 (Itc lo c n) (srcC lo c n).stp := by
  intro i ρ M H _ r
  show (match (if i < n then some (some (Dv.int (lo + i * c))) else some none) with | some (some d) => _ | some none => _ | none => _)
  by_cases hi : i < n
  · rw [if_pos hi]
    refine ⟨hi, fun y H' hy => ?_⟩
    obtain ⟨e, ey⟩ := hy
    subst e; subst ey
    exact ⟨.refl, r, .int _⟩
  · rw [if_neg hi]
    exact Nat.le_of_not_lt hi
def fRng3 (f g h : FE) : FI := fun env M => bnd (f env M) fun d M1 => bnd (g env M1) fun d2 M2 => bnd (h env M2) fun d3 M3 => match d, d2, d3 with
  | .int i, .int j, .int k => if k = -1 ∧ -(2 ^ 62) ≤ i ∧ i < 2 ^ 62 ∧ -(2 ^ 62) ≤ j ∧ j < 2 ^ 62 then some (srcC i (-1) (i - j).toNat, M3) else none
  | _, _, _ => none
theorem dvs_three {K : Frg} {ρ : List Addr} {H : Hp} {x y z : Dv} {vs : List V} (h : DVs K ρ H [x, y, z] vs) : ∃ u v w, vs = [u, v, w] ∧ DV K ρ H x u ∧ DV K ρ H y v ∧ DV K ρ H z w := by
  cases h with
  | cons h1 hr =>
    obtain ⟨v, w, rfl, h2, h3⟩ := dvs_two hr
    exact ⟨_, _, _, rfl, h1, h2, h3⟩
theorem si_range3 (hg : Gl X "range") (hm : X.mg "range" = none) (ha : SE X ct a fa) (hb : SE X ct b fb) (hc : SE X ct c fc)
    (hs : starEach [a, b, c] X.env = (false, eval a X.env) :: starEach [b, c] X.env := by rfl)
    (hs2 : starEach [b, c] X.env = (false, eval b X.env) :: starEach [c] X.env := by rfl)
    (hs3 : starEach [c] X.env = [(false, eval c X.env)] := by rfl)
    (hpl : (backTo pos (starEach [b, c] X.env)).any (·.1) = false := by rfl) : SI X ct tg (.Call (.Name "range" p) [a, b, c] [] pos) (fRng3 fa fb fc) :=
  PI.imp (pi_range3 hg hm (sa_cons ha (sa_cons hb (sa_cons hc sa_nil hs3) hs2) hs) hs hpl) fun σ H R ⟨ρ, M, env, r, he, src, M', hf, hq⟩ => by
    obtain ⟨d, M1, h1, hf⟩ := bnd_some hf
    obtain ⟨d2, M2, h2, hf⟩ := bnd_some hf
    obtain ⟨d3, M3, h3, hf⟩ := bnd_some hf
    refine ⟨ρ, M, env, r, he, [d, d2, d3], M3, by show bnd (fa env M) _ = _; rw [h1]; show bnd (bnd (fb env M1) _) _ = _; rw [h2]; show bnd (bnd (bnd (fc env M2) _) _) _ = _; rw [h3]; rfl, fun ρ1 H1 e1 r1 vs dvs => ?_⟩
    split at hf
    · split at hf
      · rename_i hb
        cases hf
        obtain ⟨v, u, w, rfl, d1, d2, d3⟩ := dvs_three dvs
        cases d1; cases d2; cases d3
        obtain ⟨rfl, b1, b2, b3, b4⟩ := hb
        exact ⟨_, _, _, _, rfl, RgC.neg b1 b2 b3 b4, hq ρ1 H1 e1 r1 _ feeds_rngC⟩
      · cases hf
    · cases hf
end
end Zl

/-! text Z19 -/
namespace Zl
open PySem L2 PySem.Spec PyProof.Rows
section
variable {X : Cx} {ct : Ct}
/-! xs.remove(k): a list of whole numbers, k among them -/
def intsOf : List Dv → Option (List Int)
  | [] => some []
  | .int i :: ds => match intsOf ds with
    | some is => some (i :: is)
    | none => none
  | _ => none
theorem intsOf_eq : ∀ {ds : List Dv} {is : List Int}, intsOf ds = some is → ds = is.map .int
  | [], _, h => by cases h; rfl
  | .int i :: ds, is, h => by
    unfold intsOf at h
    split at h
    · rename_i js e
      cases h
      rw [intsOf_eq e]; rfl
    · cases h
  | .non :: _, _, h => by cases h
  | .bl _ :: _, _, h => by cases h
  | .str _ :: _, _, h => by cases h
  | .tup _ :: _, _, h => by cases h
  | .pr _ :: _, _, h => by cases h
  | .rol _ :: _, _, h => by cases h
  | .loc _ :: _, _, h => by cases h
  | .ty _ :: _, _, h => by cases h
theorem intsOf_map : ∀ is : List Int, intsOf (is.map .int) = some is
  | [] => rfl
  | i :: is => by
    show (match intsOf (is.map .int) with | some js => some (i :: js) | none => none) = _
    rw [intsOf_map]
theorem vs_ints {K : Frg} {ρ : List Addr} {H : Hp} : ∀ {is : List Int} {vs : List V}, DVs K ρ H (is.map .int) vs → vs = is.map V.int
  | [], _, h => by cases h; rfl
  | i :: is, _, h => by
    cases h with
    | cons a b =>
      cases a
      rw [vs_ints b]; rfl
theorem ints_dvs {K : Frg} {ρ : List Addr} {H : Hp} : ∀ (is : List Int), DVs K ρ H (is.map .int) (is.map V.int)
  | [] => .nil
  | i :: is => .cons (.int i) (ints_dvs is)
def removeD : FM
  | .loc n, [.int k], M => match M[n]? with
    | some (.lst ys) => match intsOf ys with
      | some is => if k ∈ is then some (.non, M.set n (.lst ((is.erase k).map .int))) else none
      | none => none
    | _ => none
  | _, _, _ => none
theorem sm_remove : SM X ct "list.remove" removeD := by
  intro pins s σ H x xs v us Q I rx rxs w
  obtain ⟨ρ, M, d, ds, r, dx, dxs, z, M', hf, hq⟩ := w
  unfold removeD at hf
  split at hf
  · split at hf
    · rename_i hm
      split at hf
      · rename_i is hi
        split at hf
        · rename_i hk
          cases hf
          have hy := intsOf_eq hi
          subst hy
          obtain ⟨l, vs, rfl, a1, hH, a3⟩ := r.lst hm dx
          have hv := vs_ints a3
          subst hv
          obtain ⟨y, rfl, dy⟩ := dvs_one dxs
          cases dy
          obtain ⟨u, rfl, ru⟩ := vals1 rxs
          obtain ⟨t, rfl⟩ := ru
          cases rx
          rename_i n k _o1 _o2
          obtain ⟨r2, e2⟩ := r.putL a1 (ints_dvs (K := X.K) (ρ := ρ) (H := H) (is.erase k))
          obtain ⟨z, its, n', rr, hl, e0⟩ := I.lstM hH
          have hi' : IntsAre its is := intsAre_of rr
          have heq := eq_isInt k t hi'
          have hnl : is.length = its.length := by rw [← hl, List.length_map]
          have hsz : its.toArray.size ≤ sizeLine := by rw [List.size_toArray, ← hl]; exact z
          obtain ⟨j, j1, j2, j3, j4⟩ := first_at hk
          have hj : j < its.length := by omega
          refine call_meets PySem.F.slot_list_remove ⟨_, e0, rfl⟩ PySem.F.entry_list_remove (PySem.F.args_list_remove_2 _ _)
            (MeetsSeq.list_remove l its.toArray n' (.int k t) (isInt k) (fun y hy => heq y (by simpa using hy)) j (by rw [List.size_toArray]; exact hj) ?hit (fun i hi2 hlt => ?hno) hsz) ⟨e0, ?_⟩
          case hit =>
            show isInt k its[j] = true
            exact (L2.isInt_at k hi' j hj).mpr j2
          case hno =>
            have hi3 : i < its.length := by rw [List.size_toArray] at hi2; exact hi2
            show isInt k its[i] = false
            rw [Bool.eq_false_iff]
            intro w
            exact j3 i hlt ((L2.isInt_at k hi' i hi3).mp w)
          have r3 : Vals ((is.erase k).map V.int) (its.eraseIdx j) := by
            have w := rr.eraseIdx j
            rw [map_eraseIdx', j4] at w
            exact w
          refine ⟨.non, _, I.lset (its' := its.eraseIdx j) hH e0 ?_ r3 ?_, rfl, hq ρ _ e2 r2 _ .non⟩
          · show its.toArray.eraseIdxIfInBounds j = (its.eraseIdx j).toArray
            rw [List.eraseIdxIfInBounds_toArray]
          · rw [List.length_map]
            have := List.length_erase_le (a := k) (l := is)
            rw [List.length_map] at z
            omega
        · cases hf
      · cases hf
    · cases hf
  · cases hf
end
end Zl

/-! text Z20 -/
namespace Zl
open PySem L2 PySem.Spec PyProof.Rows
/-! ## [e for t in a for t1 in b] -/
def comp2F (it : Stp) (g : FG) (ft : FT) (fi1 : FI) (vs1 : List Nat) (g1 : FG) (ft1 : FT) (fe : FE) (e0 : En) (n : Nat) : Nat → Nat → Mem → Option Mem
  | 0, i, M => match it i M with
    | some none => some M
    | _ => none
  | k + 1, i, M => match it i M with
    | some none => some M
    | some (some d) => match g d e0 M with
      | some (e1, M1) => match ft e1 M1 with
        | some (true, M2) => match fi1 e1 M2 with
          | some (src1, M3) => match compF src1.stp g1 ft1 fe (wipeE e1 vs1) n src1.many 0 M3 with
            | some M4 => comp2F it g ft fi1 vs1 g1 ft1 fe e0 n k (i + 1) M4
            | none => none
          | none => none
        | some (false, M2) => comp2F it g ft fi1 vs1 g1 ft1 fe e0 n k (i + 1) M2
        | none => none
      | none => none
    | none => none
def fComp2 (fi : FI) (vs : List Nat) (g : FG) (ft : FT) (fi1 : FI) (vs1 : List Nat) (g1 : FG) (ft1 : FT) (fe : FE) : FE := fun env M => bnd (fi env M) fun src M1 =>
  match comp2F src.stp g ft fi1 vs1 g1 ft1 fe (wipeE env vs) M1.length src.many 0 (M1 ++ [.lst []]) with
  | some M2 => some (.loc M1.length, M2)
  | none => none
section
variable {X : Cx} {ct : Ct} {tg iter tg1 iter1 : Expr} {pos : Pos} {fe : FE} {fi fi1 : FI} {g g1 : FG}
theorem lc2_imp {vs vs1 : List Nat} {ft ft1 : FT} {σ : L2.St} {H : Hp} {Q : VK} (w : tE X.K ct (fComp2 fi vs g ft fi1 vs1 g1 ft1 fe) σ H Q) : tLc2 (tI X.K ct fi) (tG X.K ct vs g) (tT X.K ct ft) (tI X.K ct fi1) (tG X.K ct vs1 g1) (tT X.K ct ft1) (tE X.K ct fe) vs vs1 σ H Q := by
  obtain ⟨ρ, M, env, r, he, d, M', hf, hq⟩ := w
  obtain ⟨src, M1, h1, hf⟩ := bnd_some hf
  split at hf
  · rename_i M2 hc
    cases hf
    refine ⟨ρ, M, env, r, he, src, M1, h1, fun ρ0 H0 e0 r0 J hJ D hD => ?_⟩
    obtain ⟨rN, xN, aN⟩ := r0.newL hD (.nil : DVs X.K ρ0 H0 [] [])
    refine ⟨fun i m H => ∃ ρ M, Ext X.K ρ0 H0 ρ H ∧ Rl X.K ct ρ M H ∧ ρ[M1.length]? = some D ∧ comp2F src.stp g ft fi1 vs1 g1 ft1 fe (wipeE env vs) M1.length m i M = some M' ∧ Aft X.K ct ρ H M' fun ρ' H' => ∀ v, DV X.K ρ' H' (.loc M1.length) v → Q v H',
      ⟨src.many, ρ0 ++ [D], _, xN, rN, aN, hc, (hq.later e0).later xN⟩, ?_⟩
    rintro i m H ⟨ρ, M, x0, r, aD, hf, hq⟩
    have hj := hJ i ρ M H x0 r
    have he' := ((he.mono e0).mono x0).wipe vs
    cases q : src.stp i M with
    | none =>
      cases m with
      | zero => rw [comp2F, q] at hf; cases hf
      | succ m => rw [comp2F, q] at hf; cases hf
    | some o =>
      rw [q] at hj
      cases o with
      | none =>
        have e : some M = some M' := by
          cases m with
          | zero => rw [comp2F, q] at hf; exact hf
          | succ m => rw [comp2F, q] at hf; exact hf
        cases e
        exact .inl ⟨hj, hq ρ H .refl r _ (.loc aD)⟩
      | some d =>
        cases m with
        | zero => rw [comp2F, q] at hf; cases hf
        | succ m =>
          rw [comp2F, q] at hf
          dsimp only at hf
          refine .inr ⟨hj.1, fun H' => ∃ ρ M, Ext X.K ρ0 H0 ρ H' ∧ Rl X.K ct ρ M H' ∧ ρ[M1.length]? = some D ∧ comp2F src.stp g ft fi1 vs1 g1 ft1 fe (wipeE env vs) M1.length m (i + 1) M = some M' ∧ Aft X.K ct ρ H' M' fun ρ' H' => ∀ v, DV X.K ρ' H' (.loc M1.length) v → Q v H',
            fun H' n => ⟨m, Nat.lt_succ_self m, n⟩, fun x H' hy => ?_⟩
          obtain ⟨y1, y2, y3⟩ := hj.2 x H' hy
          split at hf
          · rename_i e1 N1 gg1
            refine ⟨ρ, M, wipeE env vs, d, y2, he'.mono y1, y3, e1, N1, gg1, fun ρ1 H1 x1 r1 σ1 en1 oe => ⟨wipe_eq oe, ?_⟩⟩
            split at hf
            · rename_i N2 g2
              refine ⟨ρ1, N1, e1, r1, en1, true, N2, g2, fun ρ2 H2 x2 r2 => ?_⟩
              dsimp only
              rw [if_pos rfl]
              split at hf
              · rename_i src1 N3 g3
                split at hf
                · rename_i N4 hc1
                  refine ⟨ρ2, N2, e1, r2, en1.mono x2, src1, N3, g3, fun ρ3 H3 x3 r3 J1 hJ1 => ?_⟩
                  have xx := ((y1.trans x1).trans x2).trans x3
                  have en3 := (en1.mono x2).mono x3
                  refine ⟨fun j k H => ∃ ρ M, Ext X.K ρ3 H3 ρ H ∧ Rl X.K ct ρ M H ∧ ρ[M1.length]? = some D ∧ compF src1.stp g1 ft1 fe (wipeE e1 vs1) M1.length k j M = some N4,
                    ⟨src1.many, ρ3, N3, .refl, r3, xx.pre _ _ aD, hc1⟩, ?_⟩
                  rintro j k H5 ⟨ρ5, M5, x5, r5, aD5, hf5⟩
                  have hj1 := hJ1 j ρ5 M5 H5 x5 r5
                  have en5 := (en3.mono x5).wipe vs1
                  cases q1 : src1.stp j M5 with
                  | none =>
                    cases k with
                    | zero => rw [compF, q1] at hf5; cases hf5
                    | succ k => rw [compF, q1] at hf5; cases hf5
                  | some o =>
                    rw [q1] at hj1
                    cases o with
                    | none =>
                      have e : some M5 = some N4 := by
                        cases k with
                        | zero => rw [compF, q1] at hf5; exact hf5
                        | succ k => rw [compF, q1] at hf5; exact hf5
                      cases e
                      exact .inl ⟨hj1, ρ5, _, x0.trans (xx.trans x5), r5, aD5, hf, hq.later (xx.trans x5)⟩
                    | some d5 =>
                      cases k with
                      | zero => rw [compF, q1] at hf5; cases hf5
                      | succ k =>
                        rw [compF, q1] at hf5
                        dsimp only at hf5
                        refine .inr ⟨hj1.1, fun H' => ∃ ρ M, Ext X.K ρ3 H3 ρ H' ∧ Rl X.K ct ρ M H' ∧ ρ[M1.length]? = some D ∧ compF src1.stp g1 ft1 fe (wipeE e1 vs1) M1.length k (j + 1) M = some N4,
                          fun H' n => ⟨k, Nat.lt_succ_self k, n⟩, fun x H' hy => ?_⟩
                        obtain ⟨z1, z2, z3⟩ := hj1.2 x H' hy
                        split at hf5
                        · rename_i e6 N6 g6
                          refine ⟨ρ5, M5, wipeE e1 vs1, d5, z2, en5.mono z1, z3, e6, N6, g6, fun ρ6 H6 x6 r6 σ6 en6 oe6 => ⟨wipe_eq oe6, ?_⟩⟩
                          split at hf5
                          · rename_i N7 g7
                            refine ⟨ρ6, N6, e6, r6, en6, true, N7, g7, fun ρ7 H7 x7 r7 => ?_⟩
                            dsimp only
                            rw [if_pos rfl]
                            split at hf5
                            · rename_i y N8 g8
                              refine ⟨ρ7, N7, e6, r7, en6.mono x7, y, N8, g8, fun ρ8 H8 x8 r8 v dv => ?_⟩
                              split at hf5
                              · rename_i acc hm
                                split at hf5
                                · rename_i hl
                                  have xx8 := ((z1.trans x6).trans x7).trans x8
                                  have aD8 := xx8.pre _ _ aD5
                                  obtain ⟨b, ws, eb, b1, b2, b3⟩ := r8.lst hm (.loc aD8)
                                  cases eb
                                  obtain ⟨r9, x9⟩ := r8.putL aD8 (b3.append (.cons dv .nil))
                                  exact ⟨ws, b2, by rw [← b3.length]; exact hl, ρ8, _, (x5.trans xx8).trans x9, r9, aD8, hf5⟩
                                · cases hf5
                              · cases hf5
                            · cases hf5
                          · rename_i N7 g7
                            refine ⟨ρ6, N6, e6, r6, en6, false, N7, g7, fun ρ7 H7 x7 r7 => ?_⟩
                            dsimp only
                            rw [if_neg (by decide)]
                            have xx7 := (z1.trans x6).trans x7
                            exact ⟨ρ7, N7, x5.trans xx7, r7, xx7.pre _ _ aD5, hf5⟩
                          · cases hf5
                        · cases hf5
                · cases hf
              · cases hf
            · rename_i N2 g2
              refine ⟨ρ1, N1, e1, r1, en1, false, N2, g2, fun ρ2 H2 x2 r2 => ?_⟩
              dsimp only
              rw [if_neg (by decide)]
              have xx := (y1.trans x1).trans x2
              exact ⟨ρ2, N2, x0.trans xx, r2, xx.pre _ _ aD, hf, hq.later xx⟩
            · cases hf
          · cases hf
  · cases hf
theorem se_comp2 {elt : Expr} {ifs ifs1 : List Expr} {scope : Scope} {own : List (Str × Nat)} {vs1 : List Nat} {ft ft1 : FT} (hc : X.calm = true) (hN : X.N.Nodup) (hi : SI X ct tg iter fi) (ok : BlkOk X.N X.env.scope scope own) (hv : ∀ i ∈ vs1, i ∈ own.map (·.2))
    (hg : ∀ s H C cl fp, SG (Cx.cb X scope s H C cl fp) ct (own.map (·.2)) tg g) (ht : ∀ s H C cl fp, STs (Cx.cb X scope s H C cl fp) ct ifs ft)
    (hi1 : ∀ s H C cl fp, SI (Cx.cb X scope s H C cl fp) ct tg1 iter1 fi1)
    (hg1 : ∀ s H C cl fp, SG (Cx.cb X scope s H C cl fp) ct vs1 tg1 g1) (ht1 : ∀ s H C cl fp, STs (Cx.cb X scope s H C cl fp) ct ifs1 ft1)
    (he : ∀ s H C cl fp, SE (Cx.cb X scope s H C cl fp) ct elt fe) (hs : ∀ x, foldedSetIterable iter X.env x = pure x := by intro _; rfl) (hs1 : ∀ env x, foldedSetIterable iter1 env x = pure x := by intro _ _; rfl) :
    SE X ct (.ListComp elt [⟨tg, iter, ifs, 0⟩, ⟨tg1, iter1, ifs1, 0⟩] scope pos) (fComp2 fi (own.map (·.2)) g ft fi1 vs1 g1 ft1 fe) :=
  PE.imp (pe_lc2 hc hN hi ok hv hg ht hi1 hg1 ht1 he hs hs1) fun _ _ _ w => lc2_imp w
end
end Zl

/-! text Z21 -/
namespace Zl
open PySem L2 PySem.Spec PyProof.Rows
/-! ## {k: v}, the key a nested tuple -/
def fDict1N (fk fv : FE) : FE := fun env M => bnd (fk env (M ++ [.dct []])) fun kd M1 => bnd (fv env M1) fun vd M2 => match M2[M.length]? with
  | some (.dct []) => match keyN kd with
    | some k => some (.loc M.length, M2.set M.length (.dcn (putN [] k kd vd)))
    | none => none
  | _ => none
section
variable {X : Cx} {ct : Ct} {pos : Pos} {k v : Expr} {fk fv : FE}
theorem se_dict1N (hu : X.A.units + 65 < cLine) (hk : SE X ct k fk) (hv : SE X ct v fv) (hp : ct.prg = X.prog := by rfl) (hw : ct.wd = X.w := by rfl) : SE X ct (.Dict [some k] [v] pos) (fDict1N fk fv) := by
  refine ⟨fun pins s σ H Q I h => ?_⟩
  obtain ⟨ρ, M, env, r, he, d, M', hf, hq⟩ := h
  obtain ⟨kd, M1, h1, hf⟩ := bnd_some hf
  obtain ⟨vd, M2, h2, hf⟩ := bnd_some hf
  have hn := I.hok.fresh (Nat.le_refl s.heap.objs.size)
  have I1 := I.laid (a := s.heap.objs.size) (o := .dK []) (h' := s.heap.push { cls := .type "dict", data := .dict #[] }) (t' := s.toks) (fun _ _ q => Heap.get?_push_of_some _ q) (Nat.le_refl _) (dk_empty s.heap I.big)
  obtain ⟨r1, x1, a1⟩ := r.new (o := .dct []) (o' := .dK []) hn ⟨[], upd_same, rfl, .nil⟩
  have room : (nestedKind X.prog X.w).room X.A := by show X.A.units + 8 < cLine; omega
  rw [arm_eval_Dict, zip_pairTrees [some k] [v] X.env pos rfl rfl, dictDisplay_pairs (pairTrees [some k] [v] X.env pos) (by intro z; cases z) (by show 1 < 17; decide)]
  refine wpAny_bind (wpAny_standAt (wpAny_bind (wpAny_subDictH (knd := nestedKind X.prog X.w) (Q := fun d s' => wpAny (model X.prog X.w) X.A (pure (Value.ref d)) (EP X pins σ Q) X.xe s') room (by show 1 ≤ 15; decide)
    (thn ((pps_cons hk hv pps_nil).run pins _ σ _ (fun ps H3 => ∃ ρ3 x y, ps = [(x, y)] ∧ Ext X.K (ρ ++ [s.heap.objs.size]) (upd H s.heap.objs.size (.dK [])) ρ3 H3 ∧ Rl X.K ct ρ3 M2 H3 ∧ DV X.K ρ3 H3 kd x ∧ DV X.K ρ3 H3 vd y) I1
      ⟨ρ ++ [s.heap.objs.size], M ++ [.dct []], env, r1, he.mono x1, kd, M1, h1, fun ρ2 H2 e2 r2 x dx => ⟨ρ2, M1, env, r2, (he.mono x1).mono e2, vd, M2, h2, fun ρ3 H3 e3 r3 y dy => ⟨ρ3, x, y, rfl, e2.trans e3, r3, dx.mono e3, dy⟩⟩⟩) ?_))))
  rintro ws s2 ⟨ps, H2, I2, rel, ρ3, x, y, rfl, e3, r3, dx, dy⟩
  cases rel with
  | cons rl rt =>
    cases rt
    rename_i uu
    obtain ⟨u1, u2⟩ := uu
    obtain ⟨ru1, ru2⟩ := rl
    split at hf
    · rename_i hm
      split at hf
      · rename_i k0 hk0
        cases hf
        obtain ⟨b, rfl, eb, ki⟩ := key_is I2 dx ru1 hk0
        have a3 := e3.pre _ _ a1
        obtain ⟨a, vs, ea, b1, b2, b3, b4⟩ := r3.dct hm (.loc a3)
        cases ea
        have ev : vs = [] := List.length_eq_zero_iff.mp (by have := congrArg List.length b3; simpa using this.symm)
        subst ev
        obtain ⟨dd, ds⟩ := dn_empty I2 b2
        refine ⟨[(k0, b, u2)], ⟨eb, rfl, ki, trivial⟩, dd, fun h' tk dd' sb => wpAny_pure ?_⟩
        have he' : ∃ u, h'.get? s.heap.objs.size = some u := by
          obtain ⟨o, _, _, ho, _⟩ := dd'
          exact ⟨o, ho⟩
        have hst : storedAllH [] [(k0, b, u2)] = storedH [] k0 b u2 := rfl
        rw [hst] at dd'
        have hlen : (storedH ([] : List (NestedKey × Addr × Value)) k0 b u2).length ≤ sizeLine := by
          have := storedH_length ([] : List (NestedKey × Addr × Value)) k0 b u2
          have h0 : (1 : Nat) ≤ sizeLine := by decide
          simp only [List.length_nil] at this
          omega
        obtain ⟨ws', p1, p2, p3, p4, p5⟩ := put_ofN (kvs := []) (xs := []) (vs := []) hk0 dx dy ru2 rfl (fun p hp => by simp at hp) .nil .nil .nil
        obtain ⟨oo, hm', hk'⟩ := r3.addr a3
        have sf : Ext X.K ρ3 H2 ρ3 (upd H2 s.heap.objs.size (NDic X.prog X.w s.heap.objs.size (storedH [] k0 b u2))) := Ext.soft (fun _ _ h => h) hk'.soft.1 hk'.soft.2
        obtain ⟨r4, e4⟩ := r3.put (o := .dcn (putN [] k0 kd vd)) (o' := NDic X.prog X.w s.heap.objs.size (storedH [] k0 b u2)) a3 ⟨_, ws', by rw [upd_same, hp, hw], p1, p2, p3.mono sf, p4.mono sf, p5⟩
        refine ⟨.ref s.heap.objs.size, _, I2.write (e := s.heap.objs.size) (t' := tk) (by rw [b2]; trivial) (.inl rfl) (fun b u hb hu => (sb.2 b hb).trans hu) he' (ndic_new dd' hlen ds), rfl, ?_⟩
        exact hq ρ3 _ ((x1.trans e3).trans e4) r4 _ (.loc (e4.pre _ _ a3))
      · cases hf
    · cases hf
end
end Zl

/-! text Z22 -/
namespace Zl
open PySem L2 PySem.Spec PyProof.Rows
/-! ## set(list of whole numbers) -/
def dedupI (is : List Int) : List Int := PyProof.Rows.firstMet (fun i => is.getD i 0) is.length
def setOfD : List Dv → Mem → Rz
  | [.loc n], M => match M[n]? with
    | some (.lst ys) => match intsOf ys with
      | some is => if is.length < 4000 then some (.loc M.length, M ++ [.st (dedupI is)]) else none
      | none => none
    | _ => none
  | _, _ => none
section
variable {X : Cx} {ct : Ct}
theorem sc_set (hc : X.calm = true) : SC X ct (.type "set") setOfD := by
  intro pins s σ H xs us Q I rv h
  obtain ⟨ρ, M, ds, r, dv, z, M', hf, hq⟩ := h
  unfold setOfD at hf
  split at hf
  · split at hf
    · rename_i ys hm
      split at hf
      · rename_i is hi
        split at hf
        · rename_i hl
          cases hf
          have hy := intsOf_eq hi
          subst hy
          obtain ⟨v, rfl, d1⟩ := dvs_one dv
          obtain ⟨l, vs, rfl, a1, hH, a3⟩ := r.lst hm d1
          have hv := vs_ints a3
          subst hv
          obtain ⟨u, rfl, ru⟩ := vals1 rv
          cases ru
          obtain ⟨its, rvv, pl, hz⟩ := I.list (SqL.of hH)
          have hia : IntsAre its is := intsAre_of rvv
          have hlen : its.length = is.length := by have := rvv.length; simpa using this.symm
          have hn : H s.heap.objs.size = none := I.hok.fresh (Nat.le_refl _)
          refine call_set_list (ns := is) (I.ok.hd hc) pl.isList (by simpa using hia) (by
            have h4 : 4001 < scanBound := by decide
            rw [List.size_toArray, hlen]; omega) fun h' tk R keep => ?_
          have hsz : its.toArray.size = is.length := by simpa using hlen
          rw [hsz] at R
          obtain ⟨r2, e2, h2⟩ := r.new (o := .st (dedupI is)) (o' := .set (fun k => (dedupI is).any (· == k)) (dedupI is).length) hn upd_same
          exact ⟨.ref s.heap.objs.size, _, I.laid (o := .set (fun k => (dedupI is).any (· == k)) (dedupI is).length) (t' := tk) (fun b u e => keep b u (Heap.lt_size e) e) (Nat.le_refl _) R, rfl, hq _ _ e2 r2 _ (.loc h2)⟩
        · cases hf
      · cases hf
    · cases hf
  · cases hf
/-- *e, a tuple, in a display or in a list of arguments -/
theorem sa_star {e : Expr} {es : List Expr} {p : Pos} {fa : FE} {fr : FA} (h : SE X ct e fa) (k : SA X ct es fr) (hs : starEach (.Starred e p :: es) X.env = (true, eval e X.env) :: starEach es X.env := by rfl) : SA X ct (.Starred e p :: es) (fStar fa fr) :=
  PA.imp (StX.pa_star h k hs) fun σ H Q ⟨ρ, M, env, r, he, d, M', hf, hq⟩ => by
    obtain ⟨x, M1, h1, hf⟩ := bnd_some hf
    split at hf
    · rename_i zs
      obtain ⟨ys, M2, h2, hf⟩ := bnd_some hf
      cases hf
      refine ⟨ρ, M, env, r, he, _, M1, h1, fun ρ1 H1 e1 r1 v dv => ?_⟩
      cases dv with
      | tup td ds =>
        exact ⟨_, _, rfl, .inl td.sq, ρ1, M1, env, r1, he.mono e1, ys, _, h2, fun ρ2 H2 e2 r2 vs dvs => hq ρ2 H2 (e1.trans e2) r2 _ ((ds.mono e2).append dvs)⟩
    · cases hf
/-- {k: v}, the key a whole number or a text -/
def fDict1K (fk fv : FE) : FE := fun env M => bnd (fk env (M ++ [.dct []])) fun kd M1 => bnd (fv env M1) fun vd M2 => match M2[M.length]? with
  | some (.dct []) => match keyD kd with
    | some k => some (.loc M.length, M2.set M.length (.dct (putDk [] k vd)))
    | none => none
  | _ => none
theorem se_dict1K {k v : Expr} {fk fv : FE} {pos : Pos} (hk : SE X ct k fk) (hv : SE X ct v fv) : SE X ct (.Dict [some k] [v] pos) (fDict1K fk fv) :=
  PE.imp (pe_disp (pps_cons hk hv pps_nil) rfl rfl (by intro z; cases z) (by show 1 ≤ 15; decide)) fun σ H Q ⟨ρ, M, env, r, he, d, M', hf, hq⟩ p hp => by
    obtain ⟨kd, M1, h1, hf⟩ := bnd_some hf
    obtain ⟨vd, M2, h2, hf⟩ := bnd_some hf
    obtain ⟨r1, x1, a1⟩ := r.new (o := .dct []) (o' := .dK []) hp ⟨[], upd_same, rfl, .nil⟩
    refine ⟨ρ ++ [p], M ++ [.dct []], env, r1, he.mono x1, kd, M1, h1, fun ρ2 H2 e2 r2 x dx => ⟨ρ2, M1, env, r2, (he.mono x1).mono e2, vd, M2, h2, fun ρ3 H3 e3 r3 y dy => ?_⟩⟩
    split at hf
    · rename_i hm
      split at hf
      · rename_i k0 hk0
        cases hf
        have a3 := (e2.trans e3).pre _ _ a1
        obtain ⟨a, vs, ea, b1, b2, b3, b4⟩ := r3.dct hm (.loc a3)
        cases ea
        have ev : vs = [] := List.length_eq_zero_iff.mp (by have := congrArg List.length b3; simpa using this.symm)
        subst ev
        obtain rfl := keyD_of dx hk0
        obtain ⟨p1, p2⟩ := put_of (k := k0) dy b3 b4
        obtain ⟨oo, hm', hk'⟩ := r3.addr a3
        obtain ⟨r4, e4⟩ := r3.put (o := .dct (putDk [] k0 vd)) (o' := .dK (putK [] k0 y)) a3 ⟨_, upd_same, p1, p2.mono (Ext.soft (fun _ _ h => h) hk'.soft.1 hk'.soft.2)⟩
        exact ⟨b2, [(k0, y)], rfl, by show 1 ≤ 15; decide, hq ρ3 _ ((x1.trans (e2.trans e3)).trans e4) r4 _ (.loc (e4.pre _ _ a3))⟩
      · cases hf
    · cases hf
end
end Zl

/-! text Y1 -/
namespace Zl
open PySem L2 PySem.Spec PyProof.Rows

/-! ## running the mirrors -/
/-- the run ends, and so -/
def Wp {α : Type} (r : Option (α × Mem)) (Q : α → Mem → Prop) : Prop := ∃ a M, r = some (a, M) ∧ Q a M
section
variable {α β : Type} {r : Option (α × Mem)} {Q : α → Mem → Prop} {a : α} {M M' : Mem}
theorem wp_ev (h : r = some (a, M')) (q : Q a M') : Wp r Q := ⟨a, M', h, q⟩
theorem wp_ok (q : Q a M) : Wp (some (a, M)) Q := ⟨a, M, rfl, q⟩
theorem Wp.go {P : α → Mem → Prop} (h : Wp r P) (k : ∀ a M, P a M → Q a M) : Wp r Q := by
  obtain ⟨a, M, e, p⟩ := h
  exact ⟨a, M, e, k a M p⟩
theorem wp_bnd {k : α → Mem → Option (β × Mem)} {Q : β → Mem → Prop} (h : Wp r fun a M => Wp (k a M) Q) : Wp (bnd r k) Q := by
  obtain ⟨a, M, rfl, b, M2, e, q⟩ := h
  exact ⟨b, M2, e, q⟩
end
abbrev QE := Dv → Mem → Prop
abbrev QS := Fl → Mem → Prop
def kSeq (g : FS) (Q : QS) : QS := fun fl M => match fl with
  | .nx e => Wp (g e M) Q
  | .rt d => Q (.rt d) M
  | .bk e => Q (.bk e) M
  | .ct e => Q (.ct e) M
def kFn (Q : QE) : QS := fun fl M => match fl with
  | .nx _ => Q .non M
  | .rt d => Q d M
  | _ => False
def kLen (n : Nat) (Q : List Dv → Mem → Prop) : List Dv → Mem → Prop := fun ds M => ds.length = n ∧ Q ds M
theorem k_len {n : Nat} {Q : List Dv → Mem → Prop} {ds : List Dv} {M : Mem} (h : ds.length = n) (k : Q ds M) : kLen n Q ds M := ⟨h, k⟩
def kLe (Q : List Dv → Mem → Prop) : List Dv → Mem → Prop := fun ds M => ds.length ≤ sizeLine ∧ Q ds M
theorem k_le {Q : List Dv → Mem → Prop} {ds : List Dv} {M : Mem} (h : ds.length.ble sizeLine = true) (k : Q ds M) : kLe Q ds M := ⟨Nat.le_of_ble_eq_true h, k⟩
def kIf {α : Type} (f g : Mem → Option (α × Mem)) (Q : α → Mem → Prop) : Bool → Mem → Prop := fun b M => match b with
  | true => Wp (f M) Q
  | false => Wp (g M) Q
section
variable {env e : En} {M : Mem} {d x : Dv} {f g : FS} {fa fb fc : FE} {ft fu : FT} {fr : FA} {Q : QS} {q : QE} {qt : Bool → Mem → Prop} {qa : List Dv → Mem → Prop} {i j n : Nat} {ds : List Dv}
theorem k_nx (h : Wp (g e M) Q) : kSeq g Q (.nx e) M := h
theorem k_rt (h : Q (.rt d) M) : kSeq g Q (.rt d) M := h
theorem k_bk (h : Q (.bk e) M) : kSeq g Q (.bk e) M := h
theorem k_ct (h : Q (.ct e) M) : kSeq g Q (.ct e) M := h
theorem kf_nx (h : q .non M) : kFn q (.nx e) M := h
theorem kf_rt (h : q d M) : kFn q (.rt d) M := h
theorem ki_t {α : Type} {f g : Mem → Option (α × Mem)} {Q : α → Mem → Prop} (h : Wp (f M) Q) : kIf f g Q true M := h
theorem ki_f {α : Type} {f g : Mem → Option (α × Mem)} {Q : α → Mem → Prop} (h : Wp (g M) Q) : kIf f g Q false M := h
theorem ki_of {α : Type} {f g : Mem → Option (α × Mem)} {Q : α → Mem → Prop} {b c : Bool} (e : b = c) (h : kIf f g Q c M) : kIf f g Q b M := e ▸ h
theorem wp_seq (h : Wp (f env M) (kSeq g Q)) : Wp (fSeq f g env M) Q := by
  refine wp_bnd (h.go fun fl M1 k => ?_)
  cases fl with
  | nx e => exact k
  | rt d => exact wp_ok k
  | bk e => exact wp_ok k
  | ct e => exact wp_ok k
theorem wp_fn {b : FS} {m : FF} (hm : m = callF n b) (env : En) (he : ds.map some ++ List.replicate (n - ds.length) none = env) (h : Wp (b env M) (kFn q)) : Wp (m ds M) q := by
  subst hm; subst he
  obtain ⟨fl, M1, e, k⟩ := h
  show Wp (match b _ M with | some (.rt d, M') => some (d, M') | some (.nx _, M') => some (.non, M') | _ => none) q
  rw [e]
  cases fl with
  | nx e => exact wp_ok k
  | rt d => exact wp_ok k
  | bk e => exact k.elim
  | ct e => exact k.elim
theorem wp_end (h : Q (.nx env) M) : Wp (fEnd env M) Q := wp_ok h
theorem wp_brk (h : Q (.bk env) M) : Wp (fBrk env M) Q := wp_ok h
theorem wp_cnt (h : Q (.ct env) M) : Wp (fCnt env M) Q := wp_ok h
theorem wp_drop (h : Wp (fa env M) fun _ M1 => Q (.nx env) M1) : Wp (fDrop fa env M) Q := wp_bnd (h.go fun _ _ k => wp_ok k)
theorem wp_ret (h : Wp (fa env M) fun d M1 => Q (.rt d) M1) : Wp (fRet fa env M) Q := wp_bnd (h.go fun _ _ k => wp_ok k)
theorem wp_set (h : Wp (fa env M) fun d M1 => Q (.nx (env.set i (some d))) M1) : Wp (fSet i fa env M) Q := wp_bnd (h.go fun _ _ k => wp_ok k)
theorem wp_asg {gg : FG} (h : Wp (fa env M) fun d M1 => Wp (gg d env M1) fun e1 M2 => Q (.nx e1) M2) : Wp (fAsg fa gg env M) Q := wp_bnd (h.go fun _ _ k => wp_bnd (k.go fun _ _ k => wp_ok k))
theorem wp_par {is : List Nat} (h : Wp (fr env M) (kLen is.length fun ds M1 => Q (.nx ((is.zip ds).foldl (fun e p => e.set p.1 (some p.2)) env)) M1)) : Wp (fPar is fr env M) Q :=
  wp_bnd (h.go fun ds M1 k => by
    show Wp (if _ then _ else _) _
    rw [if_pos k.1]
    exact wp_ok k.2)
theorem wp_ifs (h : Wp (ft env M) (kIf (f env) (g env) Q)) : Wp (fIfS ft f g env M) Q := wp_bnd (h.go fun b M1 k => by
  cases b with
  | true => exact k
  | false => exact k)
theorem wp_var (h : env[i]? = some (some d)) (k : q d M) : Wp (fV i env M) q := ⟨d, M, by unfold fV; rw [h], k⟩
theorem wp_k (k : q d M) : Wp (fK d env M) q := wp_ok k
theorem wp_op {h : Dv → Dv → Mem → Option (Dv × Mem)} (k : Wp (fa env M) fun x M1 => Wp (fb env M1) fun y M2 => Wp (h x y M2) q) : Wp (fO h fa fb env M) q := wp_bnd (k.go fun _ _ k => wp_bnd k)
theorem wp_un {h : Dv → Mem → Option (Dv × Mem)} (k : Wp (fa env M) fun x M1 => Wp (h x M1) q) : Wp (fU h fa env M) q := wp_bnd k
def kCh (h : Mem → Option (Dv × Mem)) (q : QE) : QE := fun z M => match z with
  | .bl true => Wp (h M) q
  | .bl false => q (.bl false) M
  | _ => False
theorem kc_t {h : Mem → Option (Dv × Mem)} (k : Wp (h M) q) : kCh h q (.bl true) M := k
theorem kc_f {h : Mem → Option (Dv × Mem)} (k : q (.bl false) M) : kCh h q (.bl false) M := k
theorem kc_of {h : Mem → Option (Dv × Mem)} {b c : Bool} (e : b = c) (k : kCh h q (.bl c) M) : kCh h q (.bl b) M := e ▸ k
theorem wp_chain {h h' : Dv → Dv → Mem → Option (Dv × Mem)} (k : Wp (fa env M) fun x M1 => Wp (fb env M1) fun y M2 => Wp (h x y M2) (kCh (fun M3 => bnd (fc env M3) fun w M4 => h' y w M4) q)) : Wp (fChain h h' fa fb fc env M) q :=
  wp_bnd (k.go fun x M1 k => wp_bnd (k.go fun y M2 k => wp_bnd (k.go fun z M3 k => by
    cases z with
    | bl b => cases b with
      | true => exact k
      | false => exact wp_ok k
    | _ => exact k.elim)))
def kB (Q : Bool → Mem → Prop) : QE := fun d M => match d with
  | .bl b => Q b M
  | _ => False
theorem kb (b : Bool) (h : qt b M) : kB qt (.bl b) M := h
theorem wp_b (h : Wp (fa env M) (kB qt)) : Wp (fB fa env M) qt := wp_bnd (h.go fun d M1 k => by
  cases d with
  | bl b => exact wp_ok k
  | _ => exact k.elim)
theorem wp_trB (h : Wp (fa env M) (kB qt)) : Wp (fTr fa env M) qt := wp_bnd (h.go fun d M1 k => by
  cases d with
  | bl b => exact wp_ok k
  | _ => exact k.elim)
theorem wp_not (h : Wp (ft env M) fun b M1 => qt (!b) M1) : Wp (fNotT ft env M) qt := wp_bnd (h.go fun _ _ k => wp_ok k)
theorem wp_andT (h : Wp (ft env M) (kIf (fu env) (fun M1 => some (false, M1)) qt)) : Wp (fAndT ft fu env M) qt := wp_bnd (h.go fun b M1 k => by
  cases b with
  | true => exact k
  | false => exact k)
theorem wp_orT (h : Wp (ft env M) (kIf (fun M1 => some (true, M1)) (fu env) qt)) : Wp (fOrT ft fu env M) qt := wp_bnd (h.go fun b M1 k => by
  cases b with
  | true => exact k
  | false => exact k)
theorem wp_andV (h : Wp (fa env M) (kCh (fb env) q)) : Wp (fAndV fa fb env M) q := wp_bnd (h.go fun z M1 k => by
  cases z with
  | bl b => cases b with
    | true => exact k
    | false => exact wp_ok k
  | _ => exact k.elim)
theorem wp_notV (h : Wp (fa env M) (kB fun b M1 => q (.bl !b) M1)) : Wp (fNotV fa env M) q := wp_bnd (h.go fun d M1 k => by
  cases d with
  | bl b => exact wp_ok k
  | _ => exact k.elim)
theorem wp_if (h : Wp (ft env M) (kIf (fa env) (fb env) q)) : Wp (fIf ft fa fb env M) q := wp_bnd (h.go fun b M1 k => by
  cases b with
  | true => exact k
  | false => exact k)
theorem wp_nil (h : qa [] M) : Wp (fNil env M) qa := wp_ok h
theorem wp_cons (h : Wp (fa env M) fun d M1 => Wp (fr env M1) fun ds M2 => qa (d :: ds) M2) : Wp (fCons fa fr env M) qa := wp_bnd (h.go fun _ _ k => wp_bnd (k.go fun _ _ k => wp_ok k))
theorem wp_tup (h : Wp (fr env M) (kLe fun ds M1 => q (.tup ds) M1)) : Wp (fTup fr env M) q := wp_bnd (h.go fun ds M1 k => by
  show Wp (if _ then _ else _) _
  rw [if_pos k.1]; exact wp_ok k.2)
theorem wp_lst (h : Wp (fr env M) (kLe fun ds M1 => q (.loc M1.length) (M1 ++ [.lst ds]))) : Wp (fLst fr env M) q := wp_bnd (h.go fun ds M1 k => by
  show Wp (if _ then _ else _) _
  rw [if_pos k.1]; exact wp_ok k.2)
theorem wp_c {h : List Dv → Mem → Option (Dv × Mem)} (k : Wp (fr env M) fun ds M1 => Wp (h ds M1) q) : Wp (fC h fr env M) q := wp_bnd k
theorem wp_call {F : FF} (h : Wp (fr env M) (kLen n fun ds M1 => Wp (F ds M1) q)) : Wp (fCall n F fr env M) q := wp_bnd (h.go fun ds M1 k => by
  show Wp (if _ then _ else _) _
  rw [if_pos k.1]; exact k.2)
theorem wp_callK {F : FF} {nk : Nat} {is : List Nat} (h : Wp (fr env M) fun ds M1 => (ds.length = nk ∧ (pick is ds).length = n) ∧ Wp (F (pick is ds) M1) q) : Wp (fCallK n nk is F fr env M) q := wp_bnd (h.go fun ds M1 k => by
  show Wp (if _ then _ else _) _
  rw [if_pos k.1]; exact k.2)
theorem wp_fld {c : Nat} {fld : Str} (h : Wp (fa env M) fun d M1 => ∃ k fs x, d = .loc k ∧ M1[k]? = some (.ins c fs) ∧ fs.lookup fld = some x ∧ q x M1) : Wp (fFld c fld fa env M) q := wp_bnd (h.go fun d M1 ⟨k, fs, x, e, h1, h2, h3⟩ => by
  subst e
  show Wp (match M1[k]? with | some (.ins c' fs) => if c' = c then match fs.lookup fld with | some x => some (x, M1) | none => none else none | _ => none) _
  simp only [h1, if_true, h2]
  exact wp_ok h3)
theorem wp_put {c : Nat} {fld : Str} (h : Wp (fa env M) fun y M1 => Wp (fb env M1) fun d M2 => ∃ k fs, d = .loc k ∧ M2[k]? = some (.ins c fs) ∧ fs.length < 1000 ∧ Q (.nx env) (M2.set k (.ins c (putD fld y fs)))) : Wp (fPut c fld fb fa env M) Q :=
  wp_bnd (h.go fun y M1 k => wp_bnd (k.go fun d M2 ⟨k, fs, e, h1, h2, h3⟩ => by
    subst e
    show Wp (match M2[k]? with | some (.ins c' fs) => if c' = c ∧ fs.length < 1000 then some (Fl.nx env, M2.set k (.ins c (putD fld y fs))) else none | _ => none) _
    simp only [h1, h2, and_self, if_true]
    exact wp_ok h3))
theorem wp_meth {c np : Nat} {m : Str} {F : FF} (h : Wp (fa env M) fun d M1 => isIns c m d M1 = true ∧ Wp (fr env M1) fun ds M2 => (d :: ds).length = np ∧ Wp (F (d :: ds) M2) q) : Wp (fMeth c m np F fa fr env M) q := wp_bnd (h.go fun d M1 k => by
  show Wp (if _ then _ else _) _
  rw [if_pos k.1]
  refine wp_bnd (k.2.go fun ds M2 k => ?_)
  show Wp (if _ then _ else _) _
  rw [if_pos k.1]
  exact k.2)
theorem wp_make {c np : Nat} {F : FF} (h : Wp (fr env M) fun ds M1 => ds.length + 1 = np ∧ Wp (F (.loc M1.length :: ds) (M1 ++ [.ins c []])) fun d M2 => d = .non ∧ q (.loc M1.length) M2) : Wp (fMake c np F fr env M) q := wp_bnd (h.go fun ds M1 k => by
  show Wp (if _ then _ else _) _
  rw [if_pos k.1]
  refine wp_bnd (k.2.go fun d M2 ⟨e, k⟩ => ?_)
  subst e
  exact wp_ok k)
theorem wp_m {T : String} {h : FM} (k : Wp (fa env M) fun d M1 => isTy T d M1 = true ∧ Wp (fr env M1) fun ds M2 => Wp (h d ds M2) q) : Wp (fM T h fa fr env M) q := wp_bnd (k.go fun d M1 k => by
  show Wp (if _ then _ else _) _
  rw [if_pos k.1]
  exact wp_bnd k.2)
theorem wp_or1 (h : Wp (fa env M) q) : Wp (fOr fa fb env M) q := by
  obtain ⟨d, M1, e, k⟩ := h
  exact ⟨d, M1, by unfold fOr; rw [e], k⟩
theorem wp_or2 (h1 : fa env M = none) (h : Wp (fb env M) q) : Wp (fOr fa fb env M) q := by
  obtain ⟨d, M1, e, k⟩ := h
  exact ⟨d, M1, by unfold fOr; rw [h1, e], k⟩
theorem wp_slP {flo fhi : FO} (h : Wp (fa env M) fun d M1 => Wp (flo env M1) fun lo M2 => Wp (fhi env M2) fun hi M3 => Wp (slD d lo hi M3) q) : Wp (fSl fa flo fhi env M) q := wp_bnd (h.go fun _ _ k => wp_bnd (k.go fun _ _ k => wp_bnd k))
theorem wp_noP {qo : Option Int → Mem → Prop} (h : qo none M) : Wp (fNoP env M) qo := wp_ok h
theorem wp_P {qo : Option Int → Mem → Prop} (h : Wp (fa env M) fun d M1 => ∃ i, d = .int i ∧ qo (some i) M1) : Wp (fP fa env M) qo := wp_bnd (h.go fun d M1 ⟨i, e, k⟩ => by
  subst e; exact wp_ok k)
end
section
variable {env : En} {M : Mem} {d : Dv} {fo fi : FE} {qe : En → Mem → Prop}
theorem wp_addI {i j : Int} {q : QE} (k : q (.int (i + j)) M) : Wp (addD (.int i) (.int j) M) q := wp_ok k
theorem wp_subI {i j : Int} {q : QE} (k : q (.int (i - j)) M) : Wp (subD (.int i) (.int j) M) q := wp_ok k
theorem wp_cmp {p : Int → Int → Bool} {i j : Int} {q : QE} (k : q (.bl (p i j)) M) : Wp (cmpI p (.int i) (.int j) M) q := wp_ok k
theorem wp_modI {i j : Int} {q : QE} (h : 0 < j) (k : q (.int (i % j)) M) : Wp (modD (.int i) (.int j) M) q := wp_ev (if_pos h) k
theorem wp_fdivI {i j : Int} {q : QE} (h : 0 < j ∧ j < 1073741824) (k : q (.int (i / j)) M) : Wp (fdivD (.int i) (.int j) M) q := wp_ev (if_pos h) k
theorem wp_mulI {i j : Int} {q : QE} (h : (-(2 ^ 64) < i ∧ i < 2 ^ 64) ∨ (-(2 ^ 64) < j ∧ j < 2 ^ 64)) (k : q (.int (i * j)) M) : Wp (mulD (.int i) (.int j) M) q := wp_ev (if_pos h) k
theorem wp_eqI {b : Bool} {i j : Int} {q : QE} (k : q (.bl (xor b (i == j))) M) : Wp (eqD b (.int i) (.int j) M) q := wp_ok k
theorem wp_eqS {b : Bool} {i j : Str} {q : QE} (k : q (.bl (xor b (i == j))) M) : Wp (eqD b (.str i) (.str j) M) q := wp_ok k
theorem wp_isi {ds : List Dv} {x : Dv} {M1 : Mem} {q : QE} (h : isiD ds M = some (x, M1)) (k : q x M1) : Wp (isiD ds M) q := wp_ev h k
theorem wp_len {ds : List Dv} {x : Dv} {M1 : Mem} {q : QE} (h : lenE ds M = some (x, M1)) (k : q x M1) : Wp (lenE ds M) q := wp_ev h k
theorem wp_intd {ds : List Dv} {x : Dv} {M1 : Mem} {q : QE} (h : intD ds M = some (x, M1)) (k : q x M1) : Wp (intD ds M) q := wp_ev h k
theorem wp_ixT {xs : List Dv} {i : Int} {x : Dv} {q : QE} (h : atI xs i = some x) (k : q x M) : Wp (ixE (.tup xs) (.int i) M) q := wp_ev (by unfold ixE ixD; simp only [h]) k
theorem wp_ixR {xs : List Dv} {i : Int} {x : Dv} {q : QE} (h : atI xs i = some x) (k : q x M) : Wp (ixE (.rol xs) (.int i) M) q := wp_ev (by unfold ixE ixD; simp only [h]) k
theorem wp_ixL {n : Nat} {xs : List Dv} {i : Int} {x : Dv} {q : QE} (hm : M[n]? = some (.lst xs)) (h : atI xs i = some x) (k : q x M) : Wp (ixE (.loc n) (.int i) M) q := wp_ev (by unfold ixE ixD; simp only [hm, h]) k
theorem wp_lenL {n : Nat} {xs : List Dv} {q : QE} (hm : M[n]? = some (.lst xs)) (k : q (.int xs.length) M) : Wp (lenE [.loc n] M) q := wp_ev (by unfold lenE lenD itemsD; simp only [hm]) k
theorem wp_tupL {n : Nat} {xs : List Dv} {q : QE} (hm : M[n]? = some (.lst xs)) (k : q (.tup xs) M) : Wp (tupD [.loc n] M) q := wp_ev (by unfold tupD; simp only [hm]) k
theorem wp_append {n : Nat} {xs : List Dv} {x : Dv} {q : QE} (hm : M[n]? = some (.lst xs)) (h : xs.length < sizeLine) (k : q .non (M.set n (.lst (xs ++ [x])))) : Wp (appendD (.loc n) [x] M) q := wp_ev (by unfold appendD; simp only [hm, if_pos h]) k
theorem ty_lst {n : Nat} {xs : List Dv} (hm : M[n]? = some (.lst xs)) : isTy "list" (.loc n) M = true := by unfold isTy; simp only [hm]; rfl
theorem wp_all {n : Nat} {xs : List Dv} {bs : List Bool} {q : QE} (hm : M[n]? = some (.lst xs)) (h : blsD xs = some bs) (k : q (.bl (bs.all id)) M) : Wp (allD [.loc n] M) q := wp_ev (by unfold allD; simp only [hm, h]) k
theorem wp_any {n : Nat} {xs : List Dv} {bs : List Bool} {q : QE} (hm : M[n]? = some (.lst xs)) (h : blsD xs = some bs) (k : q (.bl (bs.any id)) M) : Wp (anyD [.loc n] M) q := wp_ev (by unfold anyD; simp only [hm, h]) k
theorem bls_all : ∀ {xs : List Dv}, (∀ x ∈ xs, x = .bl true) → blsD xs = some (List.replicate xs.length true)
  | [], _ => rfl
  | x :: xs, h => by
    have e := h x (by simp)
    subst e
    unfold blsD
    rw [bls_all fun y hy => h y (by simp [hy])]; rfl
theorem wp_src {qi : Src → Mem → Prop} {fa : FE} (h : Wp (fa env M) fun d M1 => ∃ src, srcOf M1 d = some src ∧ qi src M1) : Wp (fSrc fa env M) qi := wp_bnd (h.go fun d M1 ⟨s, e, k⟩ => by
  show Wp (match srcOf M1 d with | some s => some (s, M1) | none => none) _
  rw [e]; exact wp_ok k)
theorem wp_rng1 {qi : Src → Mem → Prop} {fa : FE} (h : Wp (fa env M) fun d M1 => ∃ j : Int, d = .int j ∧ (-(2 ^ 62) ≤ j ∧ j < 2 ^ 62) ∧ qi (srcR 0 j.toNat) M1) : Wp (fRng1 fa env M) qi := wp_bnd (h.go fun d M1 ⟨j, e, h1, k⟩ => by
  subst e
  show Wp (if _ then _ else _) _
  rw [if_pos h1]; exact wp_ok k)
theorem wp_gN {i : Nat} (h : qe (env.set i (some d)) M) : Wp (gN i d env M) qe := wp_ok h
theorem wp_gsNil (h : qe env M) : Wp (gsNil [] env M) qe := wp_ok h
theorem wp_gsCons {f : FG} {g : FGs} {ds : List Dv} (h : Wp (f d env M) fun e1 M1 => Wp (g ds e1 M1) qe) : Wp (gsCons f g (d :: ds) env M) qe := wp_bnd h
theorem wp_gT {n : Nat} {g h : FGs} {xs : List Dv} (hn : xs.length = n) (k : Wp (g xs env M) qe) : Wp (gOr (gT n g) (gL n h) (.tup xs) env M) qe := by
  obtain ⟨e, M1, e1, k⟩ := k
  exact ⟨e, M1, by unfold gOr gT; simp only [if_pos hn, e1], k⟩
theorem wp_gPr {n : Nat} {g h : FGs} {xs : List Dv} (hn : xs.length = n) (k : Wp (g xs env M) qe) : Wp (gOr (gT n g) (gL n h) (.pr xs) env M) qe := by
  obtain ⟨e, M1, e1, k⟩ := k
  exact ⟨e, M1, by unfold gOr gT; simp only [if_pos hn, e1], k⟩
theorem wp_gL {m n : Nat} {g h : FGs} {xs : List Dv} (hm : M[m]? = some (.lst xs)) (hn : xs.length = n) (k : Wp (h xs env M) qe) : Wp (gOr (gT n g) (gL n h) (.loc m) env M) qe := by
  obtain ⟨e, M1, e1, k⟩ := k
  exact ⟨e, M1, by unfold gOr gT gL; simp only [hm, if_pos hn, e1], k⟩
theorem wp_gS (h : Wp (fo env M) fun o M1 => Wp (fi env M1) fun i M2 => ∃ M3, setE o i d M2 = some M3 ∧ qe env M3) : Wp (gSE fo fi d env M) qe := wp_bnd (h.go fun o M1 k => wp_bnd (k.go fun i M2 ⟨M3, e, k⟩ => by
  show Wp (match setE o i d M2 with | some M3 => some (env, M3) | none => none) _
  rw [e]; exact wp_ok k))
/-- o[j] = v -/
theorem ixN_n {n j : Nat} (hj : j < n) : ixN n (j : Int) = some j := by
  unfold ixN
  rw [if_pos (by omega), if_pos (by omega)]; simp
theorem atI_n {α : Type} {xs : List α} {j : Nat} {x : α} (h : xs[j]? = some x) : atI xs (j : Int) = some x := by
  unfold atI
  rw [ixN_n (List.getElem?_eq_some_iff.mp h).1]; exact h
theorem set_i {n j : Nat} {k : Int} {xs : List Dv} {v : Dv} (hm : M[n]? = some (.lst xs)) (hj : ixN xs.length k = some j) : setE (.loc n) (.int k) v M = some (M.set n (.lst (xs.set j v))) := by
  unfold setE setD
  simp only [hm, hj]
theorem set_at {n j : Nat} {xs : List Dv} {v : Dv} (hm : M[n]? = some (.lst xs)) (hj : j < xs.length) : setE (.loc n) (.int (j : Nat)) v M = some (M.set n (.lst (xs.set j v))) := by
  unfold setE setD
  simp only [hm, ixN_n hj]
end
/-! ### loops -/
def kLoop (I : En → Mem → Prop) (Q : QS) : QS := fun fl M => match fl with
  | .nx e => I e M
  | .ct e => I e M
  | .bk e => Q (.nx e) M
  | .rt d => Q (.rt d) M
section
variable {env : En} {M : Mem} {g : FG} {f : FS} {it : Stp} {Q : QS}
theorem kl_nx {I : En → Mem → Prop} {e : En} (h : I e M) : kLoop I Q (.nx e) M := h
theorem kl_ct {I : En → Mem → Prop} {e : En} (h : I e M) : kLoop I Q (.ct e) M := h
theorem kl_rt {I : En → Mem → Prop} {d : Dv} (h : Q (.rt d) M) : kLoop I Q (.rt d) M := h
theorem kl_bk {I : En → Mem → Prop} {e : En} (h : Q (.nx e) M) : kLoop I Q (.bk e) M := h
theorem wp_loop (I : Nat → En → Mem → Prop) (n : Nat) (hgo : ∀ i env M, i < n → I i env M → ∃ d, it i M = some (some d) ∧ Wp (g d env M) fun e1 M1 => Wp (f e1 M1) (kLoop (I (i + 1)) Q))
    (hend : ∀ env M, I n env M → it n M = some none ∧ Q (.nx env) M) : ∀ (k i : Nat) (env : En) (M : Mem), k + i = n → I i env M → Wp (loopF it g f k i env M) Q
  | 0, i, env, M, e, h => by
    have : i = n := by omega
    subst this
    obtain ⟨h1, h2⟩ := hend env M h
    show Wp (match it i M with | some none => some (Fl.nx env, M) | _ => none) Q
    rw [h1]; exact wp_ok h2
  | k + 1, i, env, M, e, h => by
    obtain ⟨d, h1, h2⟩ := hgo i env M (by omega) h
    unfold loopF
    simp only [h1]
    refine wp_bnd (h2.go fun e1 M1 h2 => wp_bnd (h2.go fun fl M2 h2 => ?_))
    cases fl with
    | nx e => exact wp_loop I n hgo hend k (i + 1) e M2 (by omega) h2
    | ct e => exact wp_loop I n hgo hend k (i + 1) e M2 (by omega) h2
    | bk e => exact wp_ok h2
    | rt d => exact wp_ok h2
theorem wp_for {fi : FI} (I : Nat → En → Mem → Prop) (h : Wp (fi env M) fun src M1 => I 0 env M1 ∧
      (∀ i env M, i < src.many → I i env M → ∃ d, src.stp i M = some (some d) ∧ Wp (g d env M) fun e1 M1 => Wp (f e1 M1) (kLoop (I (i + 1)) Q)) ∧
      ∀ env M, I src.many env M → src.stp src.many M = some none ∧ Q (.nx env) M) : Wp (fFor fi g f env M) Q :=
  wp_bnd (h.go fun src M1 ⟨h0, h1, h2⟩ => wp_loop I src.many h1 h2 src.many 0 env M1 (by omega) h0)
/-- while: I m: at most m turns are left -/
theorem wp_whileI {c : FT} (I : Nat → En → Mem → Prop) (h : ∀ m env M, I m env M → Wp (c env M) fun b M1 => match b with
      | true => Wp (f env M1) (kLoop (fun e M => ∃ m', m' < m ∧ I m' e M) Q)
      | false => Q (.nx env) M1) : ∀ (k m : Nat) (env : En) (M : Mem), m < k → I m env M → Wp (whileF c f k env M) Q
  | 0, m, env, M, e, h => by omega
  | k + 1, m, env, M, e, hi => by
    unfold whileF
    refine wp_bnd ((h m env M hi).go fun b M1 h1 => ?_)
    cases b with
    | false => exact wp_ok h1
    | true =>
      refine wp_bnd (Wp.go h1 fun fl M2 h2 => ?_)
      cases fl with
      | nx e => obtain ⟨m', l, h2⟩ := h2; exact wp_whileI I h k m' e M2 (by omega) h2
      | ct e => obtain ⟨m', l, h2⟩ := h2; exact wp_whileI I h k m' e M2 (by omega) h2
      | bk e => exact wp_ok h2
      | rt d => exact wp_ok h2
/-- comprehensions: I i acc M, the new list's cell aside -/
theorem wp_compI {ft : FT} {fe : FE} {e0 : En} {n : Nat} {q : Mem → Prop} (I : Nat → List Dv → Mem → Prop) (m : Nat) (hI : ∀ i acc M, I i acc M → M[n]? = some (.lst acc))
    (hgo : ∀ i acc M, i < m → I i acc M → ∃ d, it i M = some (some d) ∧ Wp (g d e0 M) fun e1 M1 => Wp (ft e1 M1) fun b M2 => match b with
      | true => Wp (fe e1 M2) fun y M3 => ∃ acc', M3[n]? = some (.lst acc') ∧ acc'.length < sizeLine ∧ I (i + 1) (acc' ++ [y]) (M3.set n (.lst (acc' ++ [y])))
      | false => I (i + 1) acc M2)
    (hend : ∀ acc M, I m acc M → it m M = some none ∧ q M) : ∀ (k i : Nat) (acc : List Dv) (M : Mem), k + i = m → I i acc M → ∃ M', compF it g ft fe e0 n k i M = some M' ∧ q M'
  | 0, i, acc, M, e, h => by
    have : i = m := by omega
    subst this
    obtain ⟨h1, h2⟩ := hend acc M h
    refine ⟨M, ?_, h2⟩
    show (match it i M with | some none => some M | _ => none) = _
    rw [h1]
  | k + 1, i, acc, M, e, h => by
    obtain ⟨d, h1, e1, M1, h2, b, M2, h3, h4⟩ := hgo i acc M (by omega) h
    unfold compF
    simp only [h1, h2]
    cases b with
    | false =>
      simp only [h3]
      exact wp_compI I m hI hgo hend k (i + 1) acc M2 (by omega) h4
    | true =>
      obtain ⟨y, M3, h5, acc', h6, h7, h8⟩ := h4
      simp only [h3, h5, h6, if_pos h7]
      exact wp_compI I m hI hgo hend k (i + 1) _ _ (by omega) h8
end
/-! ### what stays in the memory -/
/-- the cells of M stay, but those of W -/
abbrev Kp (W : Nat → Prop) (M M' : Mem) : Prop := M.length ≤ M'.length ∧ ∀ n, n < M.length → ¬ W n → M'[n]? = M[n]?
abbrev NoW : Nat → Prop := fun _ => False
section
variable {W W' : Nat → Prop} {M M1 M2 : Mem} {n : Nat} {o : Ob}
theorem Kp.refl : Kp W M M := ⟨Nat.le_refl _, fun _ _ _ => rfl⟩
theorem Kp.trans (a : Kp W M M1) (b : Kp W' M1 M2) (h : ∀ n, n < M.length → W' n → W n) : Kp W M M2 :=
  ⟨Nat.le_trans a.1 b.1, fun n hn w => (b.2 n (Nat.lt_of_lt_of_le hn a.1) fun x => w (h n hn x)).trans (a.2 n hn w)⟩
theorem Kp.tr (a : Kp W M M1) (b : Kp W M1 M2) : Kp W M M2 := a.trans b fun _ _ h => h
theorem Kp.trN (a : Kp W M M1) (b : Kp NoW M1 M2) : Kp W M M2 := a.trans b fun _ _ h => h.elim
theorem Kp.app (L : Mem) : Kp W M (M ++ L) := ⟨by simp, fun n hn _ => by rw [List.getElem?_append_left hn]⟩
theorem Kp.set (h : n < M.length → W n) : Kp W M (M.set n o) := ⟨by simp, fun m hm w => by
  rw [List.getElem?_set_ne fun e => ?_]
  subst e; exact w (h hm)⟩
theorem Kp.at (k : Kp W M M1) (h : M[n]? = some o) (w : ¬ W n) : M1[n]? = some o := (k.2 n (List.getElem?_eq_some_iff.mp h).1 w).trans h
theorem lt_of {x : Ob} (h : M[n]? = some x) : n < M.length := (List.getElem?_eq_some_iff.mp h).1
theorem at_new : (M ++ [o])[M.length]? = some o := by simp
theorem at_set {x : Ob} (h : M[n]? = some x) : (M.set n o)[n]? = some o := by
  rw [List.getElem?_set, if_pos rfl, if_pos (lt_of h)]
theorem at_set_ne {m : Nat} {x : Ob} (h : M[m]? = some x) (e : n ≠ m) : (M.set n o)[m]? = some x := by
  rw [List.getElem?_set_ne e]; exact h
theorem at_app {x : Ob} {L : Mem} (h : M[n]? = some x) : (M ++ L)[n]? = some x := by
  rw [List.getElem?_append_left (lt_of h)]; exact h
end
inductive All2 {α β : Type} (R : α → β → Prop) : List α → List β → Prop
  | nil : All2 R [] []
  | cons {x : α} {y : β} {xs : List α} {ys : List β} : R x y → All2 R xs ys → All2 R (x :: xs) (y :: ys)
section
variable {α β : Type} {R : α → β → Prop}
theorem All2.length : ∀ {xs : List α} {ys : List β}, All2 R xs ys → xs.length = ys.length
  | _, _, .nil => rfl
  | _, _, .cons _ t => by rw [List.length_cons, List.length_cons, t.length]
theorem All2.snoc {x : α} {y : β} (h : R x y) : ∀ {xs : List α} {ys : List β}, All2 R xs ys → All2 R (xs ++ [x]) (ys ++ [y])
  | _, _, .nil => .cons h .nil
  | _, _, .cons r t => .cons r (All2.snoc h t)
theorem All2.map_eq {φ : α → β} : ∀ {xs : List α} {ys : List β}, All2 (fun x y => y = φ x) xs ys → ys = xs.map φ
  | _, _, .nil => rfl
  | _, _, .cons r t => by rw [r, All2.map_eq t]; rfl
theorem All2.right {P : β → Prop} (h : ∀ x y, R x y → P y) : ∀ {xs : List α} {ys : List β}, All2 R xs ys → ∀ y ∈ ys, P y
  | _, _, .nil => fun y hy => by simp at hy
  | _, _, .cons r t => fun y hy => by
    rcases List.mem_cons.mp hy with e | hy
    · subst e; exact h _ _ r
    · exact All2.right h t y hy
end
/-- [e for x in xs]: over items that stay -/
theorem wp_lc {fi : FI} {fe : FE} {env : En} {M : Mem} {q : QE} {v : Nat} {vs : List Nat} (R : Dv → Dv → Prop) (W : Nat → Prop) (J : Mem → Prop)
    (h : Wp (fi env M) fun src M1 => ∃ xs : List Dv, src.many = xs.length ∧ xs.length ≤ sizeLine ∧ ¬ W M1.length ∧ (∀ i M', Kp W M1 M' → J M' → i ≤ xs.length → src.stp i M' = some xs[i]?) ∧
      J (M1 ++ [.lst []]) ∧ (∀ M' acc acc', J M' → M'[M1.length]? = some (.lst acc) → J (M'.set M1.length (.lst acc'))) ∧
      (∀ x ∈ xs, ∀ M', Kp W M1 M' → M1.length < M'.length → J M' → Wp (fe ((wipeE env vs).set v (some x)) M') fun y M3 => R x y ∧ Kp W M' M3 ∧ J M3) ∧
      ∀ ys M', All2 R xs ys → Kp W M1 M' → J M' → M'[M1.length]? = some (.lst ys) → q (.loc M1.length) M') : Wp (fComp fi vs (gN v) fYes fe env M) q := by
  refine wp_bnd (h.go fun src M1 ⟨xs, h1, h2, h3, h4, h5, h6, h7, h8⟩ => ?_)
  have key : ∃ M', compF src.stp (gN v) fYes fe (wipeE env vs) M1.length src.many 0 (M1 ++ [.lst []]) = some M' ∧ q (.loc M1.length) M' := by
    refine wp_compI (fun i acc M' => i ≤ xs.length ∧ All2 R (xs.take i) acc ∧ Kp W M1 M' ∧ J M' ∧ M'[M1.length]? = some (.lst acc)) src.many (fun i acc M' hh => hh.2.2.2.2) ?_ ?_ src.many 0 [] _ (by omega) ⟨Nat.zero_le _, .nil, .app _, h5, at_new⟩
    · rintro i acc M' hi ⟨a0, a1, a2, a3, a4⟩
      have hx : xs[i]? = some (xs[i]'(by omega)) := List.getElem?_eq_getElem (by omega)
      refine ⟨xs[i]'(by omega), by rw [h4 i M' a2 a3 a0, hx], wp_gN (wp_ok ?_)⟩
      refine (h7 _ (List.getElem_mem _) M' a2 (lt_of a4) a3).go fun y M3 ⟨b1, b2, b3⟩ => ?_
      have c1 : M3[M1.length]? = some (.lst acc) := b2.at a4 h3
      have c2 := a1.length
      rw [List.length_take] at c2
      refine ⟨acc, c1, by omega, by omega, ?_, (a2.tr b2).trans (Kp.set (W := fun n => n = M1.length) fun _ => rfl) ?_, h6 M3 acc _ b3 c1, at_set c1⟩
      · have e : xs.take (i + 1) = xs.take i ++ [xs[i]'(by omega)] := by
          rw [List.take_add_one, hx]; rfl
        rw [e]
        exact a1.snoc b1
      · intro n hn w
        omega
    · rintro acc M' ⟨a0, a1, a2, a3, a4⟩
      refine ⟨?_, ?_⟩
      · rw [h4 _ M' a2 a3 a0, h1]
        simp
      · rw [h1, List.take_length] at a1
        exact h8 acc M' a1 a2 a3 a4
  obtain ⟨M', e, k⟩ := key
  show Wp (match compF _ _ _ _ _ _ _ _ _ with | some M2 => some (Dv.loc M1.length, M2) | none => none) q
  rw [e]
  exact wp_ok k
theorem wp_lstA {env : En} {M : Mem} {fr : FA} {q : QE} (h : Wp (fr env M) (kLe fun ds M1 => ∀ n M2, n = M1.length → M2[n]? = some (.lst ds) → Kp NoW M1 M2 → M2.length = n + 1 → q (.loc n) M2)) : Wp (fLst fr env M) q :=
  wp_lst (h.go fun ds M1 k => ⟨k.1, k.2 _ _ rfl at_new (.app _) (by simp)⟩)
/-- [e for x in xs if t], nothing else written -/
theorem wp_lcF {fi : FI} {ft : FT} {fe : FE} {env : En} {M : Mem} {q : QE} {v : Nat} {vs : List Nat} (p : Dv → Bool) (φ : Dv → Dv)
    (h : Wp (fi env M) fun src M1 => ∃ xs : List Dv, src.many = xs.length ∧ xs.length ≤ sizeLine ∧ (∀ i M', Kp NoW M1 M' → i ≤ xs.length → src.stp i M' = some xs[i]?) ∧
      (∀ x ∈ xs, ∀ M', Kp NoW M1 M' → Wp (ft ((wipeE env vs).set v (some x)) M') fun b M2 => b = p x ∧ Kp NoW M' M2) ∧
      (∀ x ∈ xs, ∀ M', Kp NoW M1 M' → Wp (fe ((wipeE env vs).set v (some x)) M') fun y M3 => y = φ x ∧ Kp NoW M' M3) ∧
      ∀ M', Kp NoW M1 M' → M'[M1.length]? = some (.lst ((xs.filter p).map φ)) → q (.loc M1.length) M') : Wp (fComp fi vs (gN v) ft fe env M) q := by
  refine wp_bnd (h.go fun src M1 ⟨xs, h1, h2, h4, h6, h7, h8⟩ => ?_)
  have key : ∃ M', compF src.stp (gN v) ft fe (wipeE env vs) M1.length src.many 0 (M1 ++ [.lst []]) = some M' ∧ q (.loc M1.length) M' := by
    refine wp_compI (fun i acc M' => i ≤ xs.length ∧ acc = ((xs.take i).filter p).map φ ∧ Kp NoW M1 M' ∧ M'[M1.length]? = some (.lst acc)) src.many (fun i acc M' hh => hh.2.2.2) ?_ ?_ src.many 0 [] _ (by omega) ⟨Nat.zero_le _, rfl, .app _, at_new⟩
    · rintro i acc M' hi ⟨a0, a1, a2, a4⟩
      have hx : xs[i]? = some (xs[i]'(by omega)) := List.getElem?_eq_getElem (by omega)
      have e : xs.take (i + 1) = xs.take i ++ [xs[i]'(by omega)] := by
        rw [List.take_add_one, hx]; rfl
      refine ⟨xs[i]'(by omega), by rw [h4 i M' a2 a0, hx], wp_gN ?_⟩
      refine (h6 _ (List.getElem_mem _) M' a2).go fun b M2 ⟨b1, b2⟩ => ?_
      cases hb : p (xs[i]'(by omega)) with
      | false =>
        rw [b1, hb]
        refine ⟨by omega, ?_, a2.tr b2, b2.at a4 id⟩
        rw [e, List.filter_append, List.filter_cons, if_neg (by rw [hb]; decide)]; simpa using a1
      | true =>
        rw [b1, hb]
        refine (h7 _ (List.getElem_mem _) M2 (a2.tr b2)).go fun y M3 ⟨c1, c2⟩ => ?_
        have d1 : M3[M1.length]? = some (.lst acc) := c2.at (b2.at a4 id) id
        refine ⟨acc, d1, ?_, by omega, ?_, ((a2.tr b2).tr c2).trans (Kp.set (W := fun n => n = M1.length) fun _ => rfl) ?_, at_set d1⟩
        · rw [a1, List.length_map]
          have := List.length_filter_le p (xs.take i)
          rw [List.length_take] at this
          omega
        · rw [e, List.filter_append, List.filter_cons, if_pos hb, a1, c1]; simp
        · intro n hn w; omega
    · rintro acc M' ⟨a0, a1, a2, a4⟩
      refine ⟨by rw [h4 _ M' a2 a0, h1]; simp, ?_⟩
      rw [h1, List.take_length] at a1
      subst a1
      exact h8 M' a2 a4
  obtain ⟨M', e, k⟩ := key
  show Wp (match compF _ _ _ _ _ _ _ _ _ with | some M2 => some (Dv.loc M1.length, M2) | none => none) q
  rw [e]
  exact wp_ok k
/-- [e for x in xs], nothing else written -/
theorem wp_lcP {fi : FI} {fe : FE} {env : En} {M : Mem} {q : QE} {v : Nat} {vs : List Nat} (φ : Dv → Dv)
    (h : Wp (fi env M) fun src M1 => ∃ xs : List Dv, src.many = xs.length ∧ xs.length ≤ sizeLine ∧ (∀ i M', Kp NoW M1 M' → i ≤ xs.length → src.stp i M' = some xs[i]?) ∧
      (∀ x ∈ xs, ∀ M', Kp NoW M1 M' → Wp (fe ((wipeE env vs).set v (some x)) M') fun y M3 => y = φ x ∧ Kp NoW M' M3) ∧
      ∀ M', Kp NoW M1 M' → M'[M1.length]? = some (.lst (xs.map φ)) → q (.loc M1.length) M') : Wp (fComp fi vs (gN v) fYes fe env M) q :=
  wp_lcF (fun _ => true) φ (h.go fun src M1 ⟨xs, h1, h2, h3, h4, h5⟩ => ⟨xs, h1, h2, h3, fun x hx M' k => wp_ok ⟨rfl, .refl⟩, h4, fun M' k e => h5 M' k (by rw [e, List.filter_eq_self.mpr (fun _ _ => rfl)])⟩)
theorem wp_mulT {xs : List Dv} {k : Nat} {M : Mem} {q : QE} (h : xs.length * k ≤ 16777216) (h2 : k < 1000000) (c : q (.tup (List.replicate k xs).flatten) M) : Wp (mulD (.tup xs) (.int (k : Nat)) M) q := by
  refine wp_ev ?_ c
  have e : ((k : Nat) : Int).toNat = k := Int.toNat_natCast k
  unfold mulD
  simp only [e]
  rw [if_pos ⟨by omega, by omega, Nat.le_trans h (by decide)⟩]
theorem wp_mulL {n : Nat} {xs : List Dv} {k : Nat} {M : Mem} {q : QE} (hm : M[n]? = some (.lst xs)) (h : xs.length * k ≤ 16777216) (h2 : k < 1000000)
    (c : ∀ m M2, m = M.length → M2[m]? = some (.lst (List.replicate k xs).flatten) → Kp NoW M M2 → M2.length = m + 1 → q (.loc m) M2) : Wp (mulD (.loc n) (.int (k : Nat)) M) q := by
  refine wp_ev (a := .loc M.length) (M' := M ++ [.lst (List.replicate k xs).flatten]) ?_ (c _ _ rfl at_new (.app _) (by simp))
  have e : ((k : Nat) : Int).toNat = k := Int.toNat_natCast k
  unfold mulD
  simp only [hm, e]
  rw [if_pos ⟨by omega, by omega, Nat.le_trans h (by decide)⟩]
theorem wp_extend {n m : Nat} {xs ys : List Dv} {M : Mem} {q : QE} (hn : M[n]? = some (.lst xs)) (hm : M[m]? = some (.lst ys)) (h : xs.length + ys.length ≤ 16777216) (k : q .non (M.set n (.lst (xs ++ ys)))) : Wp (extendD (.loc n) [.loc m] M) q := by
  refine wp_ev ?_ k
  unfold extendD
  simp only [hn, hm]
  rw [if_pos (Nat.le_trans h (by decide))]
theorem wp_addT {xs ys : List Dv} {M : Mem} {q : QE} (h : xs.length + ys.length ≤ 16777216) (k : q (.tup (xs ++ ys)) M) : Wp (addD (.tup xs) (.tup ys) M) q := by
  refine wp_ev ?_ k
  unfold addD
  simp only
  rw [if_pos (Nat.le_trans h (by decide))]
theorem wp_lcI {fi : FI} {fe : FE} {env : En} {M : Mem} {q : QE} {v : Nat} {vs : List Nat} (I : Nat → Nat → List Dv → Mem → Prop)
    (h : Wp (fi env M) fun src M1 => (∀ i acc M', I M1.length i acc M' → M'[M1.length]? = some (.lst acc)) ∧ I M1.length 0 [] (M1 ++ [.lst []]) ∧
      (∀ i acc M', i < src.many → I M1.length i acc M' → ∃ d, src.stp i M' = some (some d) ∧ Wp (fe ((wipeE env vs).set v (some d)) M') fun y M3 => ∃ acc', M3[M1.length]? = some (.lst acc') ∧ acc'.length < sizeLine ∧ I M1.length (i + 1) (acc' ++ [y]) (M3.set M1.length (.lst (acc' ++ [y])))) ∧
      ∀ acc M', I M1.length src.many acc M' → src.stp src.many M' = some none ∧ q (.loc M1.length) M') : Wp (fComp fi vs (gN v) fYes fe env M) q := by
  refine wp_bnd (h.go fun src M1 ⟨h0, h1, h2, h3⟩ => ?_)
  obtain ⟨M', e, k⟩ := wp_compI (it := src.stp) (g := gN v) (ft := fYes) (fe := fe) (e0 := wipeE env vs) (n := M1.length) (q := fun M' => q (.loc M1.length) M') (I M1.length) src.many h0
    (fun i acc M' hi hh => by
      obtain ⟨d, e, w⟩ := h2 i acc M' hi hh
      exact ⟨d, e, wp_gN (wp_ok w)⟩) h3 src.many 0 [] _ (by omega) h1
  show Wp (match compF _ _ _ _ _ _ _ _ _ with | some M2 => some (Dv.loc M1.length, M2) | none => none) q
  rw [e]
  exact wp_ok k
theorem wp_enum {env : En} {M : Mem} {qi : Src → Mem → Prop} {fa : FE} (h : Wp (fa env M) fun d M1 => ∃ src, srcE M1 d = some src ∧ qi src M1) : Wp (fEnum fa env M) qi := wp_bnd (h.go fun d M1 ⟨s, e, k⟩ => by
  show Wp (match srcE M1 d with | some s => some (s, M1) | none => none) _
  rw [e]; exact wp_ok k)
theorem ins_ok {c n : Nat} {fs : List (Str × Dv)} {m : Str} {M : Mem} (h : M[n]? = some (.ins c fs)) (hl : (fs.lookup m).isNone = true) : isIns c m (.loc n) M = true := by
  unfold isIns
  simp only [h, hl, beq_self_eq_true, Bool.and_self]
theorem wp_inL {b : Bool} {n : Nat} {x : Dv} {ys : List Dv} {M : Mem} {q : QE} (h : M[n]? = some (.lst ys)) (hx : flatD x = true) (hy : ys.all flatD = true) (k : q (.bl (xor b (ys.any fun y => eqF y x))) M) : Wp (inE b x (.loc n) M) q := by
  refine wp_ev ?_ k
  unfold inE inD
  cases x <;> simp_all [flatD]
theorem wp_indexL {n j : Nat} {x : Dv} {ys : List Dv} {M : Mem} {q : QE} (h : M[n]? = some (.lst ys)) (hx : flatD x = true) (hy : ys.all flatD = true) (hj : idxB (fun y => eqF y x) ys = some j) (k : q (.int (j : Nat)) M) : Wp (indexD (.loc n) [x] M) q := by
  refine wp_ev ?_ k
  unfold indexD
  simp only [h, hx, hy, Bool.and_self, if_true, hj]
theorem idxB_of {p : Dv → Bool} : ∀ {ys : List Dv}, ys.any p = true → ∃ j, idxB p ys = some j ∧ j < ys.length
  | [], h => by simp at h
  | y :: ys, h => by
    unfold idxB
    by_cases hp : p y = true
    · exact ⟨0, if_pos hp, by simp⟩
    · rw [if_neg hp]
      rw [List.any_cons, Bool.or_eq_true] at h
      obtain ⟨j, e, hj⟩ := idxB_of (h.resolve_left hp)
      exact ⟨j + 1, by rw [e], by simp; omega⟩
theorem cut_take {xs : List Dv} {c : Nat} (h : c ≤ xs.length) : cutD xs none (some (c : Nat)) = xs.take c := by
  unfold cutD
  have e1 : HT.sIx xs.length 0 none = 0 := rfl
  have e2 : HT.sIx xs.length xs.length (some (c : Nat)) = c := by
    rw [HT.sIx_nat]; omega
  rw [e1, e2]; simp
def stpL (n : Nat) : Stp := fun i M => match M[n]? with
  | some (.lst xs) => some xs[i]?
  | _ => none
theorem stpL_at {n i : Nat} {M : Mem} {xs : List Dv} (h : M[n]? = some (.lst xs)) : stpL n i M = some xs[i]? := by
  unfold stpL; simp only [h]
theorem src_loc {n : Nat} {M : Mem} {xs : List Dv} (h : M[n]? = some (.lst xs)) : srcOf M (.loc n) = some ⟨xs.length, stpL n⟩ := by
  unfold srcOf; simp only [h]; rfl
theorem wp_slR {xs : List Dv} {lo hi : Option Int} {M : Mem} {q : QE} (k : ∀ n M2, n = M.length → M2[n]? = some (.lst (cutD xs lo hi)) → Kp NoW M M2 → M2.length = n + 1 → q (.loc n) M2) : Wp (slD (.rol xs) lo hi M) q :=
  wp_ev (M' := M ++ [.lst (cutD xs lo hi)]) rfl (k _ _ rfl at_new (.app _) (by simp))
theorem wp_slT {xs : List Dv} {lo hi : Option Int} {M : Mem} {q : QE} (k : q (.tup (cutD xs lo hi)) M) : Wp (slD (.tup xs) lo hi M) q := wp_ok k
theorem cut_mem {xs : List Dv} {lo hi : Option Int} {x : Dv} (h : x ∈ cutD xs lo hi) : x ∈ xs := List.mem_of_mem_drop (List.mem_of_mem_take h)
def intsR (n : Nat) : List Dv := (List.range n).map fun j => Dv.int (j : Nat)
theorem intsR_len {n : Nat} : (intsR n).length = n := by simp [intsR]
theorem rng_go {n i : Nat} {M : Mem} (h : i < n) : (srcR 0 n).stp i M = some (some (.int (i : Nat))) := by
  show (if i < n then some (some (Dv.int (0 + i))) else some none) = _
  rw [if_pos h, Int.zero_add]
theorem rng_end {n : Nat} {M : Mem} : (srcR 0 n).stp n M = some none := by
  show (if n < n then some (some (Dv.int (0 + n))) else some none) = _
  rw [if_neg (Nat.lt_irrefl _)]
theorem rng_stp {n i : Nat} {M : Mem} : (srcR 0 n).stp i M = some (intsR n)[i]? := by
  by_cases h : i < n
  · rw [rng_go h]; simp [intsR, h]
  · show (if i < n then some (some (Dv.int (0 + i))) else some none) = _
    rw [if_neg h, List.getElem?_eq_none (by simpa [intsR] using h)]
theorem rgD_n {n : Nat} : rgD 0 (n : Nat) = intsR n := by
  unfold rgD intsR
  simp
theorem wp_tupR {env : En} {M : Mem} {fa : FE} {q : QE} (h : Wp (fa env M) fun d M1 => ∃ n : Nat, d = .int (n : Nat) ∧ n ≤ 1000 ∧ q (.tup (intsR n)) M1) : Wp (fTupR (fRg1 fa) env M) q := by
  obtain ⟨d, M1, e, n, rfl, hn, k⟩ := h
  refine ⟨_, M1, ?_, k⟩
  have hk : rgOk 0 (n : Nat) = true := by
    unfold rgOk
    rw [decide_eq_true_eq]
    omega
  unfold fTupR fRg1 bnd
  simp only [e, hk, if_true, rgD_n]
theorem wp_rngN {env : En} {M : Mem} {qi : Src → Mem → Prop} {fa : FE} (h : Wp (fa env M) fun d M1 => ∃ n : Nat, d = .int (n : Nat) ∧ n < 2 ^ 62 ∧ qi (srcR 0 n) M1) : Wp (fRng1 fa env M) qi := wp_rng1 (h.go fun d M1 ⟨n, e, h1, k⟩ => ⟨n, e, by omega, by simpa using k⟩)
end Zl

/-! text Y2 -/
namespace Zl
open PySem L2 PySem.Spec PyProof.Rows

/-! ## the same rules, each with a name for what it asks -/
section
variable {env e : En} {M : Mem} {d x : Dv} {fa fb : FE} {fr : FA} {q : QE} {Q : QS} {n k c np : Nat} {xs : List Dv} {fs : List (Str × Dv)} {fld m : Str} {F : FF}
def kFld (c : Nat) (fld : Str) (q : QE) : QE := fun d M => ∃ k fs x, d = .loc k ∧ M[k]? = some (.ins c fs) ∧ fs.lookup fld = some x ∧ q x M
theorem wq_fld (h : Wp (fa env M) (kFld c fld q)) : Wp (fFld c fld fa env M) q := wp_fld h
theorem k_fld (h : M[k]? = some (.ins c fs)) (hl : fs.lookup fld = some x) (hq : q x M) : kFld c fld q (.loc k) M := ⟨k, fs, x, rfl, h, hl, hq⟩
def kPut (c : Nat) (fld : Str) (y : Dv) (q : Mem → Prop) : QE := fun d M => ∃ k fs, d = .loc k ∧ M[k]? = some (.ins c fs) ∧ fs.length < 1000 ∧ q (M.set k (.ins c (putD fld y fs)))
theorem wq_put (h : Wp (fa env M) fun y M1 => Wp (fb env M1) (kPut c fld y fun M' => Q (.nx env) M')) : Wp (fPut c fld fb fa env M) Q := wp_put h
theorem k_put {y : Dv} {q : Mem → Prop} (h : M[k]? = some (.ins c fs)) (hl : fs.length.blt 1000 = true) (hq : q (M.set k (.ins c (putD fld y fs)))) : kPut c fld y q (.loc k) M := ⟨k, fs, rfl, h, by simpa using Nat.lt_of_lt_of_le (Nat.le_of_ble_eq_true hl) (Nat.le_refl _), hq⟩
def kIns (c : Nat) (m : Str) (q : QE) : QE := fun d M => isIns c m d M = true ∧ q d M
theorem k_ins (h : M[k]? = some (.ins c fs)) (hl : (fs.lookup m).isNone = true) (hq : q (.loc k) M) : kIns c m q (.loc k) M := ⟨ins_ok h hl, hq⟩
theorem wq_meth (h : Wp (fa env M) (kIns c m fun d M1 => Wp (fr env M1) (kLen (np - 1) fun ds M2 => 0 < np ∧ Wp (F (d :: ds) M2) q))) : Wp (fMeth c m np F fa fr env M) q :=
  wp_meth (h.go fun d M1 ⟨h1, h2⟩ => ⟨h1, h2.go fun ds M2 ⟨h3, h4, h5⟩ => ⟨by rw [List.length_cons, h3]; omega, h5⟩⟩)
def kPos (np : Nat) (P : Prop) : Prop := 0 < np ∧ P
theorem wq_meth' (h : Wp (fa env M) (kIns c m fun d M1 => Wp (fr env M1) (kLen (np - 1) fun ds M2 => kPos np (Wp (F (d :: ds) M2) q)))) : Wp (fMeth c m np F fa fr env M) q := wq_meth h
theorem k_pos {P : Prop} (h : P) : kPos (np + 1) P := ⟨by omega, h⟩
def kNon (q : Mem → Prop) : QE := fun d M => d = .non ∧ q M
theorem k_non {q : Mem → Prop} (h : q M) : kNon q .non M := ⟨rfl, h⟩
theorem wq_make (h : Wp (fr env M) (kLen (np - 1) fun ds M1 => kPos np (Wp (F (.loc M1.length :: ds) (M1 ++ [.ins c []])) (kNon fun M2 => q (.loc M1.length) M2)))) : Wp (fMake c np F fr env M) q :=
  wp_make (h.go fun ds M1 ⟨h1, h2, h3⟩ => ⟨by omega, h3.go fun d M2 ⟨h4, h5⟩ => ⟨h4, h5⟩⟩)
def kTy (T : String) (q : QE) : QE := fun d M => isTy T d M = true ∧ q d M
theorem k_tyL (h : M[n]? = some (.lst xs)) (hq : q (.loc n) M) : kTy "list" q (.loc n) M := ⟨ty_lst h, hq⟩
theorem k_tyT (hq : q (.tup xs) M) : kTy "tuple" q (.tup xs) M := ⟨rfl, hq⟩
theorem wq_m {T : String} {h : FM} (k : Wp (fa env M) (kTy T fun d M1 => Wp (fr env M1) fun ds M2 => Wp (h d ds M2) q)) : Wp (fM T h fa fr env M) q := wp_m k
def kSrc (qi : Src → Mem → Prop) : QE := fun d M => ∃ src, srcOf M d = some src ∧ qi src M
theorem wq_src {qi : Src → Mem → Prop} (h : Wp (fa env M) (kSrc qi)) : Wp (fSrc fa env M) qi := wp_src h
theorem k_srcL {qi : Src → Mem → Prop} (h : M[n]? = some (.lst xs)) (hq : qi ⟨xs.length, stpL n⟩ M) : kSrc qi (.loc n) M := ⟨_, src_loc h, hq⟩
def stpC (xs : List Dv) : Stp := fun i _ => some xs[i]?
theorem k_srcT {qi : Src → Mem → Prop} (hq : qi ⟨xs.length, stpC xs⟩ M) : kSrc qi (.tup xs) M := ⟨_, rfl, hq⟩
theorem k_srcR {qi : Src → Mem → Prop} (hq : qi ⟨xs.length, stpC xs⟩ M) : kSrc qi (.rol xs) M := ⟨_, rfl, hq⟩
def kInt (q : Int → Mem → Prop) : QE := fun d M => ∃ i, d = .int i ∧ q i M
theorem k_int {i : Int} {q : Int → Mem → Prop} (h : q i M) : kInt q (.int i) M := ⟨i, rfl, h⟩
theorem wq_P {qo : Option Int → Mem → Prop} (h : Wp (fa env M) (kInt fun i M1 => qo (some i) M1)) : Wp (fP fa env M) qo := wp_P h
def kNat (q : Nat → Mem → Prop) : QE := fun d M => ∃ n : Nat, d = .int (n : Nat) ∧ q n M
theorem k_nat {q : Nat → Mem → Prop} (h : q n M) : kNat q (.int (n : Nat)) M := ⟨n, rfl, h⟩
theorem k_natL {l : Nat} {q : Nat → Mem → Prop} (h : q l M) : kNat q (.int (OfNat.ofNat l : Int)) M := ⟨l, rfl, h⟩
theorem k_natI {i : Int} {q : Nat → Mem → Prop} (n : Nat) (e : i = n) (h : q n M) : kNat q (.int i) M := ⟨n, by rw [e], h⟩
def kSml (n : Nat) (P : Prop) : Prop := n < 2 ^ 62 ∧ P
theorem k_sml {P : Prop} (h : n < 2 ^ 62) (p : P) : kSml n P := ⟨h, p⟩
theorem wq_rng {qi : Src → Mem → Prop} (h : Wp (fa env M) (kNat fun n M1 => kSml n (qi (srcR 0 n) M1))) : Wp (fRng1 fa env M) qi := wp_rngN h
def kSet (o i d : Dv) (q : Mem → Prop) (M : Mem) : Prop := ∃ M3, setE o i d M = some M3 ∧ q M3
theorem wq_gS {fo fi : FE} {qe : En → Mem → Prop} (h : Wp (fo env M) fun o M1 => Wp (fi env M1) fun i M2 => kSet o i d (fun M3 => qe env M3) M2) : Wp (gSE fo fi d env M) qe := wp_gS h
theorem k_set {j : Nat} {i : Int} {q : Mem → Prop} (hm : M[n]? = some (.lst xs)) (hj : ixN xs.length i = some j) (h : q (M.set n (.lst (xs.set j d)))) : kSet (.loc n) (.int i) d q M := ⟨_, set_i hm hj, h⟩
theorem k_setN {j : Nat} {q : Mem → Prop} (hm : M[n]? = some (.lst xs)) (hj : j < xs.length) (h : q (M.set n (.lst (xs.set j d)))) : kSet (.loc n) (.int (j : Nat)) d q M := ⟨_, set_at hm hj, h⟩
/-- for x in a tuple or a locked list: turn by turn -/
theorem stpC_go {i : Nat} (h : xs[i]? = some d) : stpC xs i M = some (some d) := by unfold stpC; rw [h]
theorem stpC_end : stpC xs xs.length M = some none := by unfold stpC; simp
theorem stpL_go {i : Nat} (hm : M[n]? = some (.lst xs)) (h : xs[i]? = some d) : stpL n i M = some (some d) := by rw [stpL_at hm, h]
theorem stpL_end (hm : M[n]? = some (.lst xs)) : stpL n xs.length M = some none := by rw [stpL_at hm]; simp
end
theorem Kp.tl {W W' : Nat → Prop} {M M1 M2 : Mem} (b : Kp W' M1 M2) (a : Kp W M M1) (h : ∀ n, n < M.length → W' n → W n) : Kp W M M2 := a.trans b h
theorem Kp.setl {W : Nat → Prop} {M M1 : Mem} {n : Nat} {o : Ob} (a : Kp W M M1) (h : n < M.length → W n) : Kp W M (M1.set n o) := a.trans (Kp.set (W := fun m => m = n) fun _ => rfl) fun m hm e => by subst e; exact h hm
theorem Kp.appl {W : Nat → Prop} {M M1 : Mem} {L : Mem} (a : Kp W M M1) : Kp W M (M1 ++ L) := a.trans (Kp.app (W := fun _ => False) _) fun _ _ h => h.elim
theorem wp_inT {b : Bool} {x : Dv} {ys : List Dv} {M : Mem} {q : QE} (h : inE b x (.tup ys) M = some (.bl (xor b (ys.any fun y => eqF y x)), M)) (k : q (.bl (xor b (ys.any fun y => eqF y x))) M) : Wp (inE b x (.tup ys) M) q := wp_ev h k
end Zl
namespace Zl
open PySem L2 PySem.Spec PyProof.Rows
def kNew (o : Ob) (q : Nat → Mem → Prop) (M : Mem) : Prop := ∀ n M2, n = M.length → M2[n]? = some o → Kp NoW M M2 → M2.length = n + 1 → q n M2
theorem k_new {o : Ob} {q : Nat → Mem → Prop} {M : Mem} (h : ∀ n M2, n = M.length → M2[n]? = some o → Kp NoW M M2 → M2.length = n + 1 → q n M2) : kNew o q M := h
theorem wq_lst {env : En} {M : Mem} {fr : FA} {q : QE} (h : Wp (fr env M) (kLe fun ds M1 => kNew (.lst ds) (fun n M2 => q (.loc n) M2) M1)) : Wp (fLst fr env M) q := wp_lstA h
theorem wq_make2 {env : En} {M : Mem} {fr : FA} {q : QE} {c np : Nat} {F : FF} (h : Wp (fr env M) (kLen (np - 1) fun ds M1 => kPos np (kNew (.ins c []) (fun n M2 => Wp (F (.loc n :: ds) M2) (kNon fun M3 => q (.loc n) M3)) M1))) : Wp (fMake c np F fr env M) q :=
  wq_make (h.go fun ds M1 ⟨h1, h2, h3⟩ => ⟨h1, h2, h3 _ _ rfl at_new (.app _) (by simp)⟩)
def kMulN (n : Nat) (P : Prop) : Prop := n ≤ 1000 ∧ P
theorem wq_mulL {n : Nat} {xs : List Dv} {k : Nat} {M : Mem} {q : QE} (hm : M[n]? = some (.lst xs)) (h1 : xs.length ≤ 16) (h2 : k ≤ 100000)
    (c : kNew (.lst (List.replicate k xs).flatten) (fun m M2 => q (.loc m) M2) M) : Wp (mulD (.loc n) (.int (k : Nat)) M) q :=
  wp_mulL hm (Nat.le_trans (Nat.mul_le_mul h1 h2) (by decide)) (by omega) c
theorem wq_slR {xs : List Dv} {lo hi : Option Int} {M : Mem} {q : QE} (k : kNew (.lst (cutD xs lo hi)) (fun n M2 => q (.loc n) M2) M) : Wp (slD (.rol xs) lo hi M) q := wp_slR k
theorem wq_slL {m : Nat} {xs : List Dv} {lo hi : Option Int} {M : Mem} {q : QE} (hm : M[m]? = some (.lst xs)) (k : kNew (.lst (cutD xs lo hi)) (fun n M2 => q (.loc n) M2) M) : Wp (slD (.loc m) lo hi M) q := by
  refine wp_ev (a := .loc M.length) (M' := M ++ [.lst (cutD xs lo hi)]) ?_ (k _ _ rfl at_new (.app _) (by simp))
  unfold slD
  simp only [hm]
/-- a comprehension that writes nothing else -/
def kLc (fe : FE) (ft : FT) (env : En) (v : Nat) (vs : List Nat) (p : Dv → Bool) (φ : Dv → Dv) (q : QE) : Src → Mem → Prop := fun src M1 => ∃ xs : List Dv, src.many = xs.length ∧ xs.length ≤ sizeLine ∧ (∀ i M', Kp NoW M1 M' → i ≤ xs.length → src.stp i M' = some xs[i]?) ∧
      (∀ x ∈ xs, ∀ M', Kp NoW M1 M' → Wp (ft ((wipeE env vs).set v (some x)) M') fun b M2 => b = p x ∧ Kp NoW M' M2) ∧
      (∀ x ∈ xs, ∀ M', Kp NoW M1 M' → Wp (fe ((wipeE env vs).set v (some x)) M') fun y M3 => y = φ x ∧ Kp NoW M' M3) ∧
      ∀ M', Kp NoW M1 M' → M'[M1.length]? = some (.lst ((xs.filter p).map φ)) → q (.loc M1.length) M'
theorem wq_lcF {fi : FI} {ft : FT} {fe : FE} {env : En} {M : Mem} {q : QE} {v : Nat} {vs : List Nat} (p : Dv → Bool) (φ : Dv → Dv) (h : Wp (fi env M) (kLc fe ft env v vs p φ q)) : Wp (fComp fi vs (gN v) ft fe env M) q := wp_lcF p φ h
def kMap (fe : FE) (env : En) (v : Nat) (vs : List Nat) (φ : Dv → Dv) (q : QE) : Src → Mem → Prop := fun src M1 => ∃ xs : List Dv, src.many = xs.length ∧ xs.length ≤ sizeLine ∧ (∀ i M', Kp NoW M1 M' → i ≤ xs.length → src.stp i M' = some xs[i]?) ∧
      (∀ x ∈ xs, ∀ M', Kp NoW M1 M' → Wp (fe ((wipeE env vs).set v (some x)) M') fun y M3 => y = φ x ∧ Kp NoW M' M3) ∧
      ∀ n M', n = M1.length → M1.length < M'.length → Kp NoW M1 M' → M'[n]? = some (.lst (xs.map φ)) → q (.loc n) M'
theorem wq_map {fi : FI} {fe : FE} {env : En} {M : Mem} {q : QE} {v : Nat} {vs : List Nat} (φ : Dv → Dv) (h : Wp (fi env M) (kMap fe env v vs φ q)) : Wp (fComp fi vs (gN v) fYes fe env M) q :=
  wp_lcP φ (h.go fun src M1 ⟨xs, h1, h2, h3, h4, h5⟩ => ⟨xs, h1, h2, h3, h4, fun M' k g => h5 _ _ rfl (lt_of g) k g⟩)
section
variable {fe : FE} {env : En} {v n : Nat} {vs : List Nat} {φ : Dv → Dv} {q : QE} {xs : List Dv} {M : Mem}
theorem k_mapT (hl : xs.length ≤ sizeLine) (he : ∀ x ∈ xs, ∀ M', Kp NoW M M' → Wp (fe ((wipeE env vs).set v (some x)) M') fun y M3 => y = φ x ∧ Kp NoW M' M3)
    (hq : ∀ n M', n = M.length → M.length < M'.length → Kp NoW M M' → M'[n]? = some (.lst (xs.map φ)) → q (.loc n) M') : kMap fe env v vs φ q ⟨xs.length, stpC xs⟩ M := ⟨xs, rfl, hl, fun _ _ _ _ => rfl, he, hq⟩
theorem k_mapL {m : Nat} (hm : M[m]? = some (.lst xs)) (hl : xs.length ≤ sizeLine) (he : ∀ x ∈ xs, ∀ M', Kp NoW M M' → Wp (fe ((wipeE env vs).set v (some x)) M') fun y M3 => y = φ x ∧ Kp NoW M' M3)
    (hq : ∀ n M', n = M.length → M.length < M'.length → Kp NoW M M' → M'[n]? = some (.lst (xs.map φ)) → q (.loc n) M') : kMap fe env v vs φ q ⟨xs.length, stpL m⟩ M := ⟨xs, rfl, hl, fun _ M' k _ => stpL_at (k.at hm id), he, hq⟩
theorem k_mapR {m : Nat} (hl : m ≤ sizeLine) (he : ∀ j : Nat, j < m → ∀ M', Kp NoW M M' → Wp (fe ((wipeE env vs).set v (some (.int (j : Nat)))) M') fun y M3 => y = φ (.int (j : Nat)) ∧ Kp NoW M' M3)
    (hq : ∀ n M', n = M.length → M.length < M'.length → Kp NoW M M' → M'[n]? = some (.lst ((intsR m).map φ)) → q (.loc n) M') : kMap fe env v vs φ q (srcR 0 m) M :=
  ⟨intsR m, intsR_len.symm, by rw [intsR_len]; exact hl, fun _ _ _ _ => rng_stp, fun x hx => by
    unfold intsR at hx
    obtain ⟨j, hj, rfl⟩ := List.mem_map.mp hx
    exact he j (List.mem_range.mp hj), hq⟩
end
theorem size_le {n : Nat} (h : n ≤ 16000000) : n ≤ sizeLine := Nat.le_trans h (by decide)
theorem size_lt {n : Nat} (h : n ≤ 16000000) : n < sizeLine := Nat.lt_of_le_of_lt h (by decide)
/-- a for over a range -/
theorem wq_forR {env : En} {M : Mem} {g : FG} {f : FS} {Q : QS} {n : Nat} (I : Nat → En → Mem → Prop) (h0 : I 0 env M) (h1 : ∀ i env M, i < n → I i env M → Wp (g (.int (i : Nat)) env M) fun e1 M1 => Wp (f e1 M1) (kLoop (I (i + 1)) Q)) (h2 : ∀ env M, I n env M → Q (.nx env) M) :
    I 0 env M ∧ (∀ i env M, i < (srcR 0 n).many → I i env M → ∃ d, (srcR 0 n).stp i M = some (some d) ∧ Wp (g d env M) fun e1 M1 => Wp (f e1 M1) (kLoop (I (i + 1)) Q)) ∧ ∀ env M, I (srcR 0 n).many env M → (srcR 0 n).stp (srcR 0 n).many M = some none ∧ Q (.nx env) M :=
  ⟨h0, fun i env M hi hh => ⟨_, rng_go hi, h1 i env M hi hh⟩, fun env M hh => ⟨rng_end, h2 env M hh⟩⟩
/-- a for over a tuple -/
theorem wq_forT {env : En} {M : Mem} {g : FG} {f : FS} {Q : QS} {xs : List Dv} (I : Nat → En → Mem → Prop) (h0 : I 0 env M) (h1 : ∀ i d env M, xs[i]? = some d → I i env M → Wp (g d env M) fun e1 M1 => Wp (f e1 M1) (kLoop (I (i + 1)) Q)) (h2 : ∀ env M, I xs.length env M → Q (.nx env) M) :
    I 0 env M ∧ (∀ i env M, i < (Src.mk xs.length (stpC xs)).many → I i env M → ∃ d, (Src.mk xs.length (stpC xs)).stp i M = some (some d) ∧ Wp (g d env M) fun e1 M1 => Wp (f e1 M1) (kLoop (I (i + 1)) Q)) ∧ ∀ env M, I (Src.mk xs.length (stpC xs)).many env M → (Src.mk xs.length (stpC xs)).stp (Src.mk xs.length (stpC xs)).many M = some none ∧ Q (.nx env) M :=
  ⟨h0, fun i env M hi hh => ⟨xs[i]'hi, stpC_go (M := M) (List.getElem?_eq_getElem hi), h1 i _ env M (List.getElem?_eq_getElem hi) hh⟩, fun env M hh => ⟨stpC_end (M := M), h2 env M hh⟩⟩
/-- a for over a list that stays -/
theorem wq_forL {env : En} {M : Mem} {g : FG} {f : FS} {Q : QS} {xs : List Dv} {m : Nat} (I : Nat → En → Mem → Prop) (hm : ∀ i env M, I i env M → M[m]? = some (.lst xs)) (h0 : I 0 env M) (h1 : ∀ i d env M, xs[i]? = some d → I i env M → Wp (g d env M) fun e1 M1 => Wp (f e1 M1) (kLoop (I (i + 1)) Q)) (h2 : ∀ env M, I xs.length env M → Q (.nx env) M) :
    I 0 env M ∧ (∀ i env M, i < (Src.mk xs.length (stpL m)).many → I i env M → ∃ d, (Src.mk xs.length (stpL m)).stp i M = some (some d) ∧ Wp (g d env M) fun e1 M1 => Wp (f e1 M1) (kLoop (I (i + 1)) Q)) ∧ ∀ env M, I (Src.mk xs.length (stpL m)).many env M → (Src.mk xs.length (stpL m)).stp (Src.mk xs.length (stpL m)).many M = some none ∧ Q (.nx env) M :=
  ⟨h0, fun i env M hi hh => ⟨xs[i]'hi, stpL_go (hm i env M hh) (List.getElem?_eq_getElem hi), h1 i _ env M (List.getElem?_eq_getElem hi) hh⟩, fun env M hh => ⟨stpL_end (hm _ env M hh), h2 env M hh⟩⟩
section
variable {M : Mem} {k c n : Nat} {fs : List (Str × Dv)} {fld : Str} {y d : Dv} {xs : List Dv} {q : Mem → Prop}
/-- a cell written: the memory behind it by what is known -/
def kWr (n : Nat) (o : Ob) (q : Mem → Prop) (M : Mem) : Prop := ∀ M', M'[n]? = some o → Kp (fun m => m = n) M M' → M'.length = M.length → q M'
theorem k_wr {o : Ob} (h : ∀ M', M'[n]? = some o → Kp (fun m => m = n) M M' → M'.length = M.length → q M') : kWr n o q M := h
theorem k_putO (h : M[k]? = some (.ins c fs)) (hl : fs.length.blt 1000 = true) (hq : kWr k (.ins c (putD fld y fs)) q M) : kPut c fld y q (.loc k) M := k_put h hl (hq _ (at_set h) (.set fun _ => rfl) (by simp))
theorem k_setO {j : Nat} {i : Int} (hm : M[n]? = some (.lst xs)) (hj : ixN xs.length i = some j) (h : kWr n (.lst (xs.set j d)) q M) : kSet (.loc n) (.int i) d q M := k_set hm hj (h _ (at_set hm) (.set fun _ => rfl) (by simp))
theorem k_setNO {j : Nat} (hm : M[n]? = some (.lst xs)) (hj : j < xs.length) (h : kWr n (.lst (xs.set j d)) q M) : kSet (.loc n) (.int (j : Nat)) d q M := k_setN hm hj (h _ (at_set hm) (.set fun _ => rfl) (by simp))
theorem wq_append {x : Dv} {q : QE} (hm : M[n]? = some (.lst xs)) (h : xs.length < sizeLine) (k : kWr n (.lst (xs ++ [x])) (fun M' => q .non M') M) : Wp (appendD (.loc n) [x] M) q := wp_append hm h (k _ (at_set hm) (.set fun _ => rfl) (by simp))
end
end Zl

/-! text Y3 -/
namespace Zl
open PySem L2 PySem.Spec PyProof.Rows

/-! ## turn by turn, without an invariant -/
section
variable {env : En} {M : Mem} {g : FG} {f : FS} {it : Stp} {Q : QS} {k i n : Nat} {d : Dv} {ft : FT} {fe : FE} {fi : FI} {e0 : En} {q : QE} {vs : List Nat}
def kTurn (it : Stp) (g : FG) (f : FS) (k i : Nat) (Q : QS) : QS := fun fl M => match fl with
  | .nx e => Wp (loopF it g f k i e M) Q
  | .ct e => Wp (loopF it g f k i e M) Q
  | .bk e => Q (.nx e) M
  | .rt d => Q (.rt d) M
theorem kt_nx {e : En} (h : Wp (loopF it g f k i e M) Q) : kTurn it g f k i Q (.nx e) M := h
theorem kt_ct {e : En} (h : Wp (loopF it g f k i e M) Q) : kTurn it g f k i Q (.ct e) M := h
theorem kt_bk {e : En} (h : Q (.nx e) M) : kTurn it g f k i Q (.bk e) M := h
theorem kt_rt (h : Q (.rt d) M) : kTurn it g f k i Q (.rt d) M := h
theorem wu_go (h : it i M = some (some d)) (w : Wp (g d env M) fun e1 M1 => Wp (f e1 M1) (kTurn it g f k (i + 1) Q)) : Wp (loopF it g f (k + 1) i env M) Q := by
  unfold loopF
  simp only [h]
  refine wp_bnd (w.go fun e1 M1 w => wp_bnd (w.go fun fl M2 w => ?_))
  cases fl with
  | nx e => exact w
  | ct e => exact w
  | bk e => exact wp_ok w
  | rt d => exact wp_ok w
theorem wu_end (h : it i M = some none) (w : Q (.nx env) M) : Wp (loopF it g f k i env M) Q := by
  cases k with
  | zero => unfold loopF; simp only [h]; exact wp_ok w
  | succ k => unfold loopF; simp only [h]; exact wp_ok w
theorem wu_for (h : Wp (fi env M) fun src M1 => Wp (loopF src.stp g f src.many 0 env M1) Q) : Wp (fFor fi g f env M) Q := wp_bnd h
/-- a comprehension's turns -/
def Wc (r : Option Mem) (q : Mem → Prop) : Prop := ∃ M, r = some M ∧ q M
def kAcc (n : Nat) (y : Dv) (q : Mem → Prop) (M : Mem) : Prop := ∃ acc, M[n]? = some (.lst acc) ∧ acc.length < sizeLine ∧ kWr n (.lst (acc ++ [y])) q M
theorem k_acc {acc : List Dv} {y : Dv} {q : Mem → Prop} (h : M[n]? = some (.lst acc)) (hl : acc.length.blt 1000 = true) (w : kWr n (.lst (acc ++ [y])) q M) : kAcc n y q M :=
  ⟨acc, h, size_lt (by have := Nat.le_of_ble_eq_true hl; omega), w⟩
theorem wuc_go {qm : Mem → Prop} (h : it i M = some (some d)) (w : Wp (g d e0 M) fun e1 M1 => Wp (ft e1 M1) (kIf (fun M2 => bnd (fe e1 M2) fun y M3 => some (some y, M3)) (fun M2 => some (none, M2)) fun o M3 => match o with
      | some y => kAcc n y (fun M4 => Wc (compF it g ft fe e0 n k (i + 1) M4) qm) M3
      | none => Wc (compF it g ft fe e0 n k (i + 1) M3) qm)) : Wc (compF it g ft fe e0 n (k + 1) i M) qm := by
  obtain ⟨e1, M1, h1, b, M2, h2, w⟩ := w
  unfold compF
  simp only [h, h1]
  cases b with
  | false =>
    obtain ⟨o, M3, h3, w⟩ := w
    cases h3
    simp only [h2]
    exact w
  | true =>
    obtain ⟨o, M3, h3, w⟩ := w
    obtain ⟨y, M4, h4, h5⟩ := bnd_some h3
    cases h5
    obtain ⟨acc, w1, w2, w3⟩ := w
    simp only [h2, h4, w1, if_pos w2]
    exact w3 _ (at_set w1) (.set fun _ => rfl) (by simp)
theorem wuc_map {qm : Mem → Prop} (h : it i M = some (some d)) (w : Wp (g d e0 M) fun e1 M1 => Wp (fe e1 M1) fun y M3 => kAcc n y (fun M4 => Wc (compF it g fYes fe e0 n k (i + 1) M4) qm) M3) : Wc (compF it g fYes fe e0 n (k + 1) i M) qm :=
  wuc_go h (w.go fun e1 M1 w => wp_ok (by
    show Wp (bnd _ _) _
    exact wp_bnd (w.go fun y M3 w => wp_ok w)))
theorem wuc_end {qm : Mem → Prop} (h : it i M = some none) (w : qm M) : Wc (compF it g ft fe e0 n k i M) qm := by
  cases k with
  | zero => exact ⟨M, by unfold compF; simp only [h], w⟩
  | succ k => exact ⟨M, by unfold compF; simp only [h], w⟩
theorem wu_comp (h : Wp (fi env M) fun src M1 => kNew (.lst []) (fun n M2 => Wc (compF src.stp g ft fe (wipeE env vs) n src.many 0 M2) fun M3 => q (.loc n) M3) M1) : Wp (fComp fi vs g ft fe env M) q := by
  refine wp_bnd (h.go fun src M1 h => ?_)
  obtain ⟨M3, e, w⟩ := h _ _ rfl at_new (.app _) (by simp)
  show Wp (match compF _ _ _ _ _ _ _ _ _ with | some M2 => some (Dv.loc M1.length, M2) | none => none) q
  rw [e]; exact wp_ok w
end
section
variable {env : En} {M : Mem} {g : FG} {f : FS} {it : Stp} {Q : QS} {k m i n : Nat} {d : Dv} {fe : FE} {e0 : En}
theorem wv_map {qm : Mem → Prop} (hk : m = k + 1) (h : it i M = some (some d)) (w : Wp (g d e0 M) fun e1 M1 => Wp (fe e1 M1) fun y M3 => kAcc n y (fun M4 => Wc (compF it g fYes fe e0 n k (i + 1) M4) qm) M3) : Wc (compF it g fYes fe e0 n m i M) qm := by
  subst hk; exact wuc_map h w
theorem wv_go (hk : m = k + 1) (h : it i M = some (some d)) (w : Wp (g d env M) fun e1 M1 => Wp (f e1 M1) (kTurn it g f k (i + 1) Q)) : Wp (loopF it g f m i env M) Q := by
  subst hk; exact wu_go h w
end
/-! ## == by what is read -/
theorem wq_eqD {b : Bool} {x y : Dv} {M : Mem} {Q : QE} {p q : PyData} (hx : rd M deep x = some p) (hy : rd M deep y = some q) (sp : SeqAt.shaped p = true) (sq : SeqAt.shaped q = true)
    (k : Q (.bl (xor b (PyData.eqv p q))) M) : Wp (eqD b x y M) Q := by
  unfold eqD
  split
  · cases hx; cases hy
    refine wp_ok ?_
    exact k
  · cases hx; cases hy
    refine wp_ok ?_
    exact k
  · simp only [hx, hy]
    rw [if_pos ⟨sp, sq⟩]
    exact wp_ok k
theorem rd_loc {M : Mem} {n k : Nat} {xs : List Dv} {ps : List PyData} (h : M[k]? = some (.lst xs)) (hx : rdL (rd M n) xs = some ps) : rd M (n + 1) (.loc k) = some (.list ps) := by
  show (match M[k]? with | some (.lst xs) => (match rdL (rd M n) xs with | some ps => some (PyData.list ps) | none => none) | _ => none) = _
  rw [h]; simp only [hx]
theorem rd_tup {M : Mem} {n : Nat} {xs : List Dv} {ps : List PyData} (hx : rdL (rd M n) xs = some ps) : rd M (n + 1) (.tup xs) = some (.tuple ps) := by
  show (match rdL (rd M n) xs with | some ps => some (PyData.tuple ps) | none => none) = _
  rw [hx]
theorem rdL_nil {f : Dv → Option PyData} : rdL f [] = some [] := rfl
theorem rdL_cons {f : Dv → Option PyData} {x : Dv} {xs : List Dv} {p : PyData} {ps : List PyData} (h : f x = some p) (hs : rdL f xs = some ps) : rdL f (x :: xs) = some (p :: ps) := by
  unfold rdL; rw [h, hs]
theorem rd_bls {M : Mem} {n : Nat} : ∀ bs : List Bool, rdL (rd M n) (bs.map Dv.bl) = some (bs.map .bool)
  | [] => rfl
  | b :: bs => by
    rw [List.map_cons, List.map_cons]
    exact rdL_cons (by cases n <;> rfl) (rd_bls bs)
/-! ## for, by an invariant -/
def kFor (I : Nat → En → Mem → Prop) (g : FG) (f : FS) (env : En) (Q : QS) : Src → Mem → Prop := fun src M1 => I 0 env M1 ∧
      (∀ i env M, i < src.many → I i env M → ∃ d, src.stp i M = some (some d) ∧ Wp (g d env M) fun e1 M1 => Wp (f e1 M1) (kLoop (I (i + 1)) Q)) ∧
      ∀ env M, I src.many env M → src.stp src.many M = some none ∧ Q (.nx env) M
section
variable {env : En} {M : Mem} {g : FG} {f : FS} {Q : QS} {n m : Nat} {fi : FI} {xs : List Dv} {I : Nat → En → Mem → Prop}
theorem wq_for (I : Nat → En → Mem → Prop) (h : Wp (fi env M) (kFor I g f env Q)) : Wp (fFor fi g f env M) Q := wp_for I h
theorem k_forR (h0 : I 0 env M) (h1 : ∀ i env M, i < n → I i env M → Wp (g (.int (i : Nat)) env M) fun e1 M1 => Wp (f e1 M1) (kLoop (I (i + 1)) Q)) (h2 : ∀ env M, I n env M → Q (.nx env) M) : kFor I g f env Q (srcR 0 n) M := wq_forR I h0 h1 h2
theorem k_forT (h0 : I 0 env M) (h1 : ∀ i d env M, xs[i]? = some d → I i env M → Wp (g d env M) fun e1 M1 => Wp (f e1 M1) (kLoop (I (i + 1)) Q)) (h2 : ∀ env M, I xs.length env M → Q (.nx env) M) : kFor I g f env Q ⟨xs.length, stpC xs⟩ M := wq_forT I h0 h1 h2
theorem k_forL (hm : ∀ i env M, I i env M → M[m]? = some (.lst xs)) (h0 : I 0 env M) (h1 : ∀ i d env M, xs[i]? = some d → I i env M → Wp (g d env M) fun e1 M1 => Wp (f e1 M1) (kLoop (I (i + 1)) Q)) (h2 : ∀ env M, I xs.length env M → Q (.nx env) M) : kFor I g f env Q ⟨xs.length, stpL m⟩ M := wq_forL I hm h0 h1 h2
end
/-- both ways meet -/
theorem k_join {α : Type} {f g : Mem → Option (α × Mem)} {Q : α → Mem → Prop} {b : Bool} {M : Mem} (P : α → Mem → Prop) (h1 : b = true → Wp (f M) P) (h2 : b = false → Wp (g M) P) (h : ∀ a M', P a M' → Q a M') : kIf f g Q b M := by
  cases b with
  | true => exact (h1 rfl).go h
  | false => exact (h2 rfl).go h
end Zl

/-! text Y4 -/
namespace Zl
open PySem L2 PySem.Spec PyProof.Rows
theorem wq_addL {m n : Nat} {xs ys : List Dv} {M : Mem} {q : QE} (hm : M[m]? = some (.lst xs)) (hn : M[n]? = some (.lst ys)) (hl : xs.length + ys.length ≤ 16000000)
    (c : kNew (.lst (xs ++ ys)) (fun k M2 => q (.loc k) M2) M) : Wp (addD (.loc m) (.loc n) M) q := by
  refine wp_ev (a := .loc M.length) (M' := M ++ [.lst (xs ++ ys)]) ?_ (c _ _ rfl at_new (.app _) (by simp))
  unfold addD
  simp only [hm, hn]
  rw [if_pos (size_le hl)]
theorem wq_addT {xs ys : List Dv} {M : Mem} {q : QE} (h : xs.length + ys.length ≤ 16000000) (k : q (.tup (xs ++ ys)) M) : Wp (addD (.tup xs) (.tup ys) M) q := wp_addT (Nat.le_trans h (by decide)) k
theorem wq_lstT {xs : List Dv} {M : Mem} {q : QE} (c : kNew (.lst xs) (fun k M2 => q (.loc k) M2) M) : Wp (lstD [.tup xs] M) q :=
  wp_ev (a := .loc M.length) (M' := M ++ [.lst xs]) rfl (c _ _ rfl at_new (.app _) (by simp))
theorem wq_lstL {n : Nat} {xs : List Dv} {M : Mem} {q : QE} (hm : M[n]? = some (.lst xs)) (c : kNew (.lst xs) (fun k M2 => q (.loc k) M2) M) : Wp (lstD [.loc n] M) q := by
  refine wp_ev (a := .loc M.length) (M' := M ++ [.lst xs]) ?_ (c _ _ rfl at_new (.app _) (by simp))
  unfold lstD itemsD
  simp only [hm]
/-! zip, enumerate -/
def kZip (qi : Src → Mem → Prop) (d : Dv) : QE := fun e M => ∃ src, srcZ M d e = some src ∧ qi src M
theorem wq_zip {env : En} {M : Mem} {qi : Src → Mem → Prop} {fa fb : FE} (h : Wp (fa env M) fun d M1 => Wp (fb env M1) (kZip qi d)) : Wp (fZip fa fb env M) qi :=
  wp_bnd (h.go fun d M1 h => wp_bnd (h.go fun e M2 ⟨s, e1, k⟩ => by
    show Wp (match srcZ M2 d e with | some s => some (s, M2) | none => none) _
    rw [e1]; exact wp_ok k))
def stpZ (xs ys : List Dv) : Stp := fun i _ => some (zipAt xs ys i)
theorem k_zipT {xs ys : List Dv} {M : Mem} {qi : Src → Mem → Prop} (h : qi ⟨min xs.length ys.length, stpZ xs ys⟩ M) : kZip qi (.tup xs) (.tup ys) M := ⟨_, rfl, h⟩
theorem zip_at {xs ys : List Dv} {i : Nat} {x y : Dv} (h : xs[i]? = some x) (h' : ys[i]? = some y) : zipAt xs ys i = some (.pr [x, y]) := by unfold zipAt; rw [h, h']
theorem zip_end {xs ys : List Dv} : zipAt xs ys (min xs.length ys.length) = none := by
  unfold zipAt
  by_cases h : xs.length ≤ ys.length
  · rw [Nat.min_eq_left h, List.getElem?_eq_none (Nat.le_refl _)]
  · rw [Nat.min_eq_right (by omega), List.getElem?_eq_none (l := ys) (Nat.le_refl _)]
    cases xs[ys.length]? <;> rfl
def kEnum (qi : Src → Mem → Prop) : QE := fun d M => ∃ src, srcE M d = some src ∧ qi src M
theorem wq_enum {env : En} {M : Mem} {qi : Src → Mem → Prop} {fa : FE} (h : Wp (fa env M) (kEnum qi)) : Wp (fEnum fa env M) qi := wp_enum h
def stpE (xs : List Dv) : Stp := fun i _ => if i ≤ xs.length then some (pairs xs i) else none
theorem k_enumT {xs : List Dv} {M : Mem} {qi : Src → Mem → Prop} (h : qi ⟨xs.length, stpE xs⟩ M) : kEnum qi (.tup xs) M := ⟨_, rfl, h⟩
theorem stpE_go {xs : List Dv} {i : Nat} {x : Dv} {M : Mem} (h : xs[i]? = some x) : stpE xs i M = some (some (.pr [.int (i : Nat), x])) := by
  have := (List.getElem?_eq_some_iff.mp h).1
  unfold stpE pairs
  rw [if_pos (by omega), h]; rfl
theorem stpE_end {xs : List Dv} {M : Mem} : stpE xs xs.length M = some none := by
  unfold stpE pairs
  rw [if_pos (Nat.le_refl _), List.getElem?_eq_none (Nat.le_refl _)]; rfl
theorem k_forE {env : En} {M : Mem} {g : FG} {f : FS} {Q : QS} {xs : List Dv} {I : Nat → En → Mem → Prop} (h0 : I 0 env M) (h1 : ∀ i d env M, xs[i]? = some d → I i env M → Wp (g (.pr [.int (i : Nat), d]) env M) fun e1 M1 => Wp (f e1 M1) (kLoop (I (i + 1)) Q)) (h2 : ∀ env M, I xs.length env M → Q (.nx env) M) : kFor I g f env Q ⟨xs.length, stpE xs⟩ M :=
  ⟨h0, fun i env M hi hh => ⟨_, stpE_go (M := M) (List.getElem?_eq_getElem hi), h1 i _ env M (List.getElem?_eq_getElem hi) hh⟩, fun env M hh => ⟨stpE_end (M := M), h2 env M hh⟩⟩
/-! ## comprehensions by any target: what each item gives -/
/-- [e for t in xs if c], nothing else written -/
theorem wq_lcG {fi : FI} {g : FG} {ft : FT} {fe : FE} {env : En} {M : Mem} {q : QE} {vs : List Nat} (p : Nat → Bool) (φ : Nat → Dv)
    (h : Wp (fi env M) fun src M1 => src.many ≤ 16000000 ∧ (∀ i M', Kp NoW M1 M' → i < src.many → ∃ d, src.stp i M' = some (some d) ∧ Wp (g d (wipeE env vs) M') fun e1 M2 => Wp (ft e1 M2) fun b M3 => b = p i ∧ Kp NoW M' M3 ∧ (p i = true → Wp (fe e1 M3) fun y M4 => y = φ i ∧ Kp NoW M3 M4)) ∧
      (∀ M', Kp NoW M1 M' → src.stp src.many M' = some none) ∧
      ∀ n M', n = M1.length → M1.length < M'.length → Kp NoW M1 M' → M'[n]? = some (.lst (((List.range src.many).filter p).map φ)) → q (.loc n) M') : Wp (fComp fi vs g ft fe env M) q := by
  refine wp_bnd (h.go fun src M1 ⟨h0, h1, h2, h3⟩ => ?_)
  have key : ∃ M', compF src.stp g ft fe (wipeE env vs) M1.length src.many 0 (M1 ++ [.lst []]) = some M' ∧ q (.loc M1.length) M' := by
    refine wp_compI (fun i acc M' => i ≤ src.many ∧ acc = ((List.range i).filter p).map φ ∧ Kp NoW M1 M' ∧ M'[M1.length]? = some (.lst acc)) src.many (fun i acc M' hh => hh.2.2.2) ?_ ?_ src.many 0 [] _ (by omega) ⟨Nat.zero_le _, rfl, .app _, at_new⟩
    · rintro i acc M' hi ⟨a0, a1, a2, a4⟩
      obtain ⟨d, e1, w⟩ := h1 i M' a2 hi
      refine ⟨d, e1, ?_⟩
      obtain ⟨env1, M2, w1, w⟩ := w
      refine ⟨env1, M2, w1, ?_⟩
      refine w.go fun b M3 ⟨b1, b2, b3⟩ => ?_
      have er : (List.range (i + 1)) = List.range i ++ [i] := List.range_succ
      cases hb : p i with
      | false =>
        rw [b1, hb]
        refine ⟨by omega, ?_, a2.tr b2, b2.at a4 id⟩
        rw [er, List.filter_append, List.filter_cons, if_neg (by rw [hb]; decide)]; simpa using a1
      | true =>
        rw [b1, hb]
        refine (b3 hb).go fun y M4 ⟨c1, c2⟩ => ?_
        have d1 : M4[M1.length]? = some (.lst acc) := c2.at (b2.at a4 id) id
        refine ⟨acc, d1, ?_, by omega, ?_, ((a2.tr b2).tr c2).trans (Kp.set (W := fun n => n = M1.length) fun _ => rfl) ?_, at_set d1⟩
        · rw [a1, List.length_map]
          have := List.length_filter_le p (List.range i)
          rw [List.length_range] at this
          exact size_lt (by omega)
        · rw [er, List.filter_append, List.filter_cons, if_pos hb, a1, c1]; simp
        · intro n hn w; omega
    · rintro acc M' ⟨a0, a1, a2, a4⟩
      refine ⟨h2 M' a2, ?_⟩
      subst a1
      exact h3 _ M' rfl (lt_of a4) a2 a4
  obtain ⟨M', e, k⟩ := key
  show Wp (match compF _ _ _ _ _ _ _ _ _ with | some M2 => some (Dv.loc M1.length, M2) | none => none) q
  rw [e]
  exact wp_ok k
end Zl

/-! text Y5 -/
namespace Zl
open PySem L2 PySem.Spec PyProof.Rows
/-! ## data that is small: depth at most k, weight at most n -/
structure Sm (k n : Nat) (p : PyData) : Prop where
  lay : p.canLay0 = true
  dep : p.depth ≤ k
  sho : p.showable = true
  dic : p.hasDict = false
  sht : p.leavesShort 12 = true
  blk : p.bulk ≤ n
structure SmA (k n : Nat) (ps : List PyData) : Prop where
  lay : PyData.canLayAll0 ps = true
  dep : PyData.depthAll ps ≤ k
  sho : PyData.showableAll ps = true
  dic : PyData.hasDictAll ps = false
  sht : PyData.leavesShortAll 12 ps = true
  blk : PyData.bulkAll ps ≤ n
section
variable {k n m : Nat} {p : PyData} {ps : List PyData}
theorem smA_nil : SmA k n [] := ⟨rfl, Nat.zero_le _, rfl, rfl, rfl, Nat.zero_le _⟩
theorem smA_cons (h : Sm k n p) (hs : SmA k m ps) : SmA k (n + 1 + m) (p :: ps) :=
  ⟨by unfold PyData.canLayAll0; rw [h.lay, hs.lay]; rfl, by unfold PyData.depthAll; exact Nat.max_le.mpr ⟨h.dep, hs.dep⟩, by unfold PyData.showableAll; rw [h.sho, hs.sho]; rfl,
    by unfold PyData.hasDictAll; rw [h.dic, hs.dic]; rfl, by unfold PyData.leavesShortAll; rw [h.sht, hs.sht]; rfl, by unfold PyData.bulkAll; have := h.blk; have := hs.blk; omega⟩
theorem SmA.mono {k' n' : Nat} (h : SmA k n ps) (hk : k ≤ k') (hn : n ≤ n') : SmA k' n' ps := ⟨h.lay, Nat.le_trans h.dep hk, h.sho, h.dic, h.sht, Nat.le_trans h.blk hn⟩
theorem Sm.mono {k' n' : Nat} (h : Sm k n p) (hk : k ≤ k') (hn : n ≤ n') : Sm k' n' p := ⟨h.lay, Nat.le_trans h.dep hk, h.sho, h.dic, h.sht, Nat.le_trans h.blk hn⟩
theorem smA_all : ∀ {ps : List PyData}, (∀ p ∈ ps, Sm k n p) → SmA k ((n + 1) * ps.length) ps
  | [], _ => smA_nil
  | p :: ps, h => (smA_cons (h p (by simp)) (smA_all fun q hq => h q (by simp [hq]))).mono (Nat.le_refl _) (by rw [List.length_cons, Nat.mul_succ]; omega)
theorem sm_list (h : SmA k n ps) : Sm (k + 1) n (.list ps) :=
  ⟨by unfold PyData.canLay0; exact h.lay, by unfold PyData.depth; have := h.dep; omega, by unfold PyData.showable; exact h.sho, by unfold PyData.hasDict; exact h.dic, by unfold PyData.leavesShort; exact h.sht, by unfold PyData.bulk; exact h.blk⟩
theorem sm_tuple (h : SmA k n ps) : Sm (k + 1) n (.tuple ps) :=
  ⟨by unfold PyData.canLay0; exact h.lay, by unfold PyData.depth; have := h.dep; omega, by unfold PyData.showable; exact h.sho, by unfold PyData.hasDict; exact h.dic, by unfold PyData.leavesShort; exact h.sht, by unfold PyData.bulk; exact h.blk⟩
theorem sm_bool {b : Bool} : Sm k n (.bool b) := ⟨rfl, Nat.zero_le _, rfl, rfl, rfl, Nat.zero_le _⟩
theorem sm_none : Sm k n .none := ⟨rfl, Nat.zero_le _, rfl, rfl, rfl, Nat.zero_le _⟩
theorem nat_short : ∀ j : Nat, j ≤ 3000 → (PyData.shown (.int (j : Nat))).length ≤ 12 := by decide +kernel
theorem sm_nat {j : Nat} (h : j ≤ 3000) : Sm k n (.int (j : Nat)) :=
  ⟨rfl, Nat.zero_le _, by
    unfold PyData.showable
    rw [decide_eq_true_eq]
    have : ((j : Nat) : Int).natAbs = j := Int.natAbs_natCast j
    rw [this]
    by_cases e : j = 0
    · rw [e]; decide
    · have := (Nat.log2_lt e (k := 1920)).mpr (Nat.lt_of_le_of_lt h (Nat.lt_of_lt_of_le (by decide : 3000 < 2 ^ 12) (Nat.pow_le_pow_right (by decide) (by decide))))
      exact this, rfl, by unfold PyData.leavesShort; exact decide_eq_true (nat_short j h), Nat.zero_le _⟩
theorem Sm.shaped (h : Sm k n p) (hk : k ≤ 60) : SeqAt.shaped p = true := by
  unfold SeqAt.shaped
  rw [h.lay, Bool.true_and, decide_eq_true_eq]
  have := h.dep; omega
/-- repr, == of small data -/
theorem wq_repr {x : Dv} {M : Mem} {q : QE} (hx : (match x with | .tup _ => true | .rol _ => true | .loc _ => true | _ => false) = true) (hr : rd M deep x = some p) (h : Sm k n p) (hk : k ≤ 60) (hn : n ≤ 1000000) (c : q (.str p.shown) M) : Wp (reprE [x] M) q := by
  have ok : p.showable = true ∧ p.hasDict = false ∧ p.depth ≤ 60 ∧ p.shown.length ≤ sizeLine := by
    refine ⟨h.sho, h.dic, Nat.le_trans h.dep hk, ?_⟩
    have e := PyData.shown_le_bulk 12 (by decide) p h.sht
    have := h.blk
    exact Nat.le_trans e (by show _ ≤ 2 ^ 24; omega)
  refine wp_ev ?_ c
  cases x with
  | tup xs => show reprD [.tup xs] M = _; unfold reprD; simp only [hr, if_pos ok]
  | rol xs => show reprD [.rol xs] M = _; unfold reprD; simp only [hr, if_pos ok]
  | loc m => show reprD [.loc m] M = _; unfold reprD; simp only [hr, if_pos ok]
  | _ => cases hx
theorem wq_reprB {b : Bool} {M : Mem} {q : QE} (c : q (.str (if b then "True" else "False")) M) : Wp (reprE [.bl b] M) q := wp_ok c
theorem wq_reprN {M : Mem} {q : QE} (c : q (.str "None") M) : Wp (reprE [.non] M) q := wp_ok c
theorem wq_eqS {b : Bool} {x y : Dv} {M : Mem} {Q : QE} {p q : PyData} {k' n' : Nat} (hx : rd M deep x = some p) (hy : rd M deep y = some q) (sp : Sm k n p) (sq : Sm k' n' q) (hk : k ≤ 60) (hk' : k' ≤ 60) (c : Q (.bl (xor b (PyData.eqv p q))) M) : Wp (eqD b x y M) Q :=
  wq_eqD hx hy (sp.shaped hk) (sq.shaped hk') c
end
/-! what is read of lists of bools, of numbers -/
theorem smA_bools {k : Nat} (bs : List Bool) : SmA k bs.length (bs.map .bool) :=
  (smA_all (k := k) (n := 0) fun p hp => by obtain ⟨b, _, rfl⟩ := List.mem_map.mp hp; exact sm_bool).mono (Nat.le_refl _) (by simp)
def natsP (ns : List Nat) : List PyData := ns.map fun n => .int (n : Nat)
theorem smA_nats {k : Nat} {ns : List Nat} (h : ∀ n ∈ ns, n ≤ 3000) : SmA k ns.length (natsP ns) :=
  (smA_all (k := k) (n := 0) fun p hp => by obtain ⟨j, hj, rfl⟩ := List.mem_map.mp hp; exact sm_nat (h j hj)).mono (Nat.le_refl _) (by simp [natsP])
theorem rd_nats {M : Mem} {n : Nat} : ∀ ns : List Nat, rdL (rd M n) (ns.map fun j => Dv.int (j : Nat)) = some (natsP ns)
  | [] => rfl
  | j :: ns => rdL_cons (by cases n <;> rfl) (rd_nats ns)
theorem eqvA_bools : ∀ as bs : List Bool, PyData.eqvAll (as.map .bool) (bs.map .bool) = (as == bs)
  | [], [] => rfl
  | [], _ :: _ => rfl
  | _ :: _, [] => rfl
  | a :: as, b :: bs => by
    rw [List.map_cons, List.map_cons]
    unfold PyData.eqvAll
    rw [eqvA_bools as bs]
    cases a <;> cases b <;> rfl
theorem eqvA_nats : ∀ as bs : List Nat, PyData.eqvAll (natsP as) (natsP bs) = (as == bs)
  | [], [] => rfl
  | [], _ :: _ => rfl
  | _ :: _, [] => rfl
  | a :: as, b :: bs => by
    unfold natsP
    rw [List.map_cons, List.map_cons]
    unfold PyData.eqvAll
    have := eqvA_nats as bs
    unfold natsP at this
    rw [this]
    have e : PyData.eqv (.int (a : Nat)) (.int (b : Nat)) = (a == b) := by
      show ((a : Int) == (b : Int)) = _
      rw [Bool.eq_iff_iff, beq_iff_eq, beq_iff_eq]
      exact Int.ofNat_inj
    rw [e]; rfl
end Zl

/-! text Y6 -/
namespace Zl
open PySem L2 PySem.Spec PyProof.Rows
theorem wr_lstT {xs : List Dv} {M : Mem} {q : QE} (c : kNew (.lst xs) (fun k M2 => q (.loc k) M2) M) : Wp (lstE [.tup xs] M) q := wq_lstT c
theorem wr_lstL {n : Nat} {xs : List Dv} {M : Mem} {q : QE} (hm : M[n]? = some (.lst xs)) (c : kNew (.lst xs) (fun k M2 => q (.loc k) M2) M) : Wp (lstE [.loc n] M) q := wq_lstL hm c
theorem wr_lstS {x : Str} {M : Mem} {q : QE} (h : x.cps.size ≤ sizeLine) (c : kNew (.lst (signsD x)) (fun k M2 => q (.loc k) M2) M) : Wp (lstE [.str x] M) q :=
  wp_ev (a := .loc M.length) (M' := M ++ [.lst (signsD x)]) (by unfold lstE; simp only; rw [if_pos h]) (c _ _ rfl at_new (.app _) (by simp))
/-! a text walked -/
def stpS (x : Str) : Stp := fun i _ => some (x.cps[i]?.map fun c => .str ⟨#[c]⟩)
theorem k_srcS {x : Str} {M : Mem} {qi : Src → Mem → Prop} (hq : qi ⟨x.cps.size, stpS x⟩ M) : kSrc qi (.str x) M := ⟨_, rfl, hq⟩
theorem stpS_at {x : Str} {i : Nat} {M : Mem} : stpS x i M = some (signsD x)[i]? := by
  unfold stpS signsD
  rw [List.getElem?_map, Array.getElem?_toList]
theorem signs_len {x : Str} : (signsD x).length = x.cps.size := by simp [signsD]
theorem k_forS {env : En} {M : Mem} {g : FG} {f : FS} {Q : QS} {x : Str} {I : Nat → En → Mem → Prop} (h0 : I 0 env M) (h1 : ∀ i d env M, (signsD x)[i]? = some d → I i env M → Wp (g d env M) fun e1 M1 => Wp (f e1 M1) (kLoop (I (i + 1)) Q)) (h2 : ∀ env M, I x.cps.size env M → Q (.nx env) M) : kFor I g f env Q ⟨x.cps.size, stpS x⟩ M :=
  ⟨h0, fun i env M hi hh => by
    have hi' : i < (signsD x).length := by rw [signs_len]; exact hi
    exact ⟨_, by show stpS x i M = _; rw [stpS_at, List.getElem?_eq_getElem hi'], h1 i _ env M (List.getElem?_eq_getElem hi') hh⟩, fun env M hh => ⟨by show stpS x x.cps.size M = _; rw [stpS_at, List.getElem?_eq_none (by rw [signs_len]; exact Nat.le_refl _)], h2 env M hh⟩⟩
theorem k_mapS {fe : FE} {env : En} {v : Nat} {vs : List Nat} {φ : Dv → Dv} {q : QE} {x : Str} {M : Mem} (hl : x.cps.size ≤ sizeLine) (he : ∀ y ∈ signsD x, ∀ M', Kp NoW M M' → Wp (fe ((wipeE env vs).set v (some y)) M') fun y' M3 => y' = φ y ∧ Kp NoW M' M3)
    (hq : ∀ n M', n = M.length → M.length < M'.length → Kp NoW M M' → M'[n]? = some (.lst ((signsD x).map φ)) → q (.loc n) M') : kMap fe env v vs φ q ⟨x.cps.size, stpS x⟩ M := ⟨signsD x, signs_len.symm, by rw [signs_len]; exact hl, fun _ M' _ _ => stpS_at (M := M'), he, hq⟩
/-! name += e -/
theorem wp_aug {env : En} {M : Mem} {i : Nat} {h : Int → Int → Int} {f : FE} {Q : QS} {a : Int} (he : env[i]? = some (some (.int a))) (k : Wp (f env M) (kInt fun b M1 => Q (.nx (env.set i (some (.int (h a b))))) M1)) : Wp (fAug i h f env M) Q := by
  unfold fAug
  simp only [he]
  refine wp_bnd (k.go fun d M1 ⟨b, e, q⟩ => ?_)
  subst e
  exact wp_ok q
end Zl

/-! text Y7 -/
namespace Zl
open PySem L2 PySem.Spec PyProof.Rows
/-! ## running dicts -/
theorem valD_put {kvs : List (Key × Dv)} {k k' : Key} {v : Dv} : valD (putDk kvs k v) k' = if k = k' then some v else valD kvs k' := by
  unfold putDk
  by_cases h : (kvs.any fun kv => decide (kv.1 = k)) = true
  · rw [if_pos h]
    induction kvs with
    | nil => cases h
    | cons p kvs ih =>
      rw [List.map_cons]
      unfold valD
      rw [List.find?_cons, List.find?_cons]
      by_cases e : p.1 = k
      · rw [if_pos e]
        by_cases e2 : k = k'
        · rw [if_pos e2]
          have : decide ((p.1, v).1 = k') = true := decide_eq_true (e.trans e2)
          rw [this]; rfl
        · rw [if_neg e2]
          have a1 : decide ((p.1, v).1 = k') = false := decide_eq_false (fun z => e2 (e.symm.trans z))
          have a2 : decide (p.1 = k') = false := decide_eq_false (fun z => e2 (e.symm.trans z))
          rw [a1]
          show Option.map _ (List.find? _ (List.map _ kvs)) = Option.map _ (List.find? _ kvs)
          by_cases h2 : (kvs.any fun kv => decide (kv.1 = k)) = true
          · have := ih h2; rw [if_neg e2] at this; exact this
          · have hm : (kvs.map fun kv => if kv.1 = k then (kv.1, v) else kv) = kvs := by
              refine (List.map_congr_left fun x hx => ?_).trans (List.map_id kvs)
              rw [if_neg]; rfl
              intro z
              exact h2 (List.any_eq_true.mpr ⟨x, hx, decide_eq_true z⟩)
            rw [hm]
      · rw [if_neg e]
        have h2 : (kvs.any fun kv => decide (kv.1 = k)) = true := by
          rw [List.any_cons, decide_eq_false e, Bool.false_or] at h; exact h
        have i := ih h2
        unfold valD at i
        by_cases e3 : p.1 = k'
        · rw [decide_eq_true e3]
          rw [if_neg (fun z => e (e3.trans z.symm))]
        · rw [decide_eq_false e3]
          exact i
  · rw [if_neg h]
    unfold valD
    rw [List.find?_append]
    by_cases e2 : k = k'
    · subst e2
      rw [if_pos rfl]
      have : kvs.find? (fun kv => decide (kv.1 = k)) = none := by
        rw [List.find?_eq_none]
        intro x hx z
        exact h (List.any_eq_true.mpr ⟨x, hx, z⟩)
      rw [this]; simp
    · rw [if_neg e2]
      have : [(k, v)].find? (fun kv => decide (kv.1 = k')) = none := by simp [e2]
      rw [this, Option.or_none]
theorem putDk_len {kvs : List (Key × Dv)} {k : Key} {v : Dv} : (putDk kvs k v).length ≤ kvs.length + 1 := by
  unfold putDk
  split <;> simp
section
variable {M : Mem} {n : Nat} {kvs : List (Key × Dv)} {k : Key} {env : En}
theorem wq_dnew {q : QE} (h : kNew (.dct []) (fun n M2 => q (.loc n) M2) M) : Wp (fDNew env M) q :=
  wp_ev (a := .loc M.length) (M' := M ++ [.dct []]) rfl (h _ _ rfl at_new (.app _) (by simp))
theorem k_setDk {i d : Dv} {q : Mem → Prop} (hm : M[n]? = some (.dct kvs)) (hk : keyD i = some k) (hl : kvs.length < sizeLine) (h : kWr n (.dct (putDk kvs k d)) q M) : kSet (.loc n) i d q M :=
  ⟨_, by unfold setE; simp only [hm, hk, if_pos hl], h _ (at_set hm) (.set fun _ => rfl) (by simp)⟩
theorem wq_dget {fo fe : FE} {q : QE} (h : Wp (fo env M) fun d M1 => ∃ m kv1, d = .loc m ∧ M1[m]? = some (.dct kv1) ∧ Wp (fe env M1) fun y M2 => ∃ kv k, M2[m]? = some (.dct kv) ∧ keyD y = some k ∧ q ((valD kv k).getD .non) M2) : Wp (fDGet fo fe env M) q := by
  unfold fDGet
  refine wp_bnd (h.go ?_)
  rintro d M1 ⟨m, kv1, rfl, h1, w⟩
  simp only [h1]
  refine wp_bnd (w.go ?_)
  rintro y M2 ⟨kv, k, h2, h3, h4⟩
  simp only [h2, h3]
  exact wp_ok h4
theorem wq_rng3 {fa fb fc : FE} {qi : Src → Mem → Prop} (h : Wp (fa env M) fun d M1 => Wp (fb env M1) fun d2 M2 => Wp (fc env M2) fun d3 M3 => ∃ i j : Int, d = .int i ∧ d2 = .int j ∧ d3 = .int (-1) ∧ -(2 ^ 62) ≤ i ∧ i < 2 ^ 62 ∧ -(2 ^ 62) ≤ j ∧ j < 2 ^ 62 ∧ qi (srcC i (-1) (i - j).toNat) M3) : Wp (fRng3 fa fb fc env M) qi := by
  unfold fRng3
  refine wp_bnd (h.go fun d M1 w => wp_bnd (w.go fun d2 M2 w => wp_bnd (w.go ?_)))
  rintro d3 M3 ⟨i, j, rfl, rfl, rfl, h1, h2, h3, h4, h5⟩
  simp only [h1, h2, h3, h4, and_self, if_true]
  exact wp_ok h5
/-- a for that counts n - 1, .., 0 -/
theorem k_forD {g : FG} {f : FS} {Q : QS} {I : Nat → En → Mem → Prop} (h0 : I 0 env M) (h1 : ∀ i t env M, t + i + 1 = n → I i env M → Wp (g (.int (t : Nat)) env M) fun e1 M1 => Wp (f e1 M1) (kLoop (I (i + 1)) Q)) (h2 : ∀ env M, I n env M → Q (.nx env) M) : kFor I g f env Q (srcC ((n : Int) - 1) (-1) ((n : Int) - 1 - (-1)).toNat) M := by
  have e : ((n : Int) - 1 - (-1)).toNat = n := by omega
  rw [e]
  refine ⟨h0, fun i env M hi hh => ?_, fun env M hh => ⟨?_, h2 env M hh⟩⟩
  · have hi' : i < n := hi
    refine ⟨.int ((n - 1 - i : Nat) : Int), ?_, h1 i (n - 1 - i) env M (by omega) hh⟩
    show (if i < n then some (some (Dv.int ((n : Int) - 1 + i * (-1)))) else some none) = _
    rw [if_pos hi']
    congr 3
    omega
  · show (if n < n then _ else some none) = _
    rw [if_neg (Nat.lt_irrefl n)]
end
end Zl

/-! text B54 -/
namespace L54
open PySem L2 PySem.Spec PyProof.Rows Zl
def top (i : Nat) : Stmt := PySem.Challenge.pw_missbounds_k54_plain_forms_by_hand.main.body.getD i (.Pass ⟨0, 0, 0, 0⟩)
def c_MOST_LINES : Dv := .int 4
def c_MOST_STATES : Dv := .int 64
/-! firsts_of -/
abbrev s_firsts_of : Stmt := top 19
theorem sc_firsts_of : FnScope ["stages", "classes", "order", "known", "at", "place", "after", "hits", "goal"] ["stages", "classes"] (defScope s_firsts_of) := ⟨rfl, rfl, rfl, by decide +kernel, rfl, by decide +kernel, by decide +kernel⟩
def b_firsts_of : FS := (fSeq (fPar [2, 3] (fCons (fLst (fCons (fK (.int 0)) fNil)) (fCons (fDict1K (fO ixE (fV 1) (fK (.int 0))) (fK (.int 0))) fNil))) (fSeq (fSet 4 (fK (.int 0))) (fSeq (whileF (fB (fO ltD (fV 4) (fC lenE (fCons (fV 2) fNil)))) (fSeq (fAsg (fO ixE (fFld 0 "rows" (fV 0)) (fO ixE (fV 2) (fV 4))) (gOr (gT 3 (gsCons (gN 5) (gsCons (gN 6) (gsCons (gN 7) gsNil)))) (gL 3 (gsCons (gN 5) (gsCons (gN 6) (gsCons (gN 7) gsNil)))))) (fSeq (fFor (fSrc (fO addD (fLst (fCons (fV 6) fNil)) (fV 7))) (gN 8) (fIfS (fB (fO (inE true) (fO ixE (fV 1) (fV 8)) (fV 3))) (fSeq (fAsg (fC lenE (fCons (fV 2) fNil)) (gSE (fV 3) (fO ixE (fV 1) (fV 8)))) (fDrop ((fM "list" appendD (fV 2) (fCons (fV 8) fNil))))) fEnd)) (fAug 4 (fun i j => i + j) (fK (.int 1))))) 1000000) (fRet (fTup (fCons (fV 2) (fCons (fV 3) fNil)))))))
def m_firsts_of : FF := callF 9 b_firsts_of
/-! numbered -/
abbrev s_numbered : Stmt := top 17
theorem sc_numbered : FnScope ["keys", "known", "found", "key"] ["keys"] (defScope s_numbered) := ⟨rfl, rfl, rfl, by decide +kernel, rfl, by decide +kernel, by decide +kernel⟩
def b_numbered : FS := (fSeq (fSet 1 (fDNew)) (fSeq (fSet 2 (fLst fNil)) (fSeq (fFor (fSrc (fV 0)) (gN 3) (fSeq (fIfS (fB (fO (inE true) (fV 3) (fV 1))) (fAsg (fC lenE (fCons (fV 1) fNil)) (gSE (fV 1) (fV 3))) fEnd) (fDrop ((fM "list" appendD (fV 2) (fCons (fO ixE (fV 1) (fV 3)) fNil)))))) (fRet (fV 2)))))
def m_numbered : FF := callF 4 b_numbered
/-! classes_of -/
abbrev s_classes_of : Stmt := top 18
theorem sc_classes_of : FnScope ["stages", "found", "count", "keys", "own", "row", "stage", "goal"] ["stages"] (defScope s_classes_of) := ⟨rfl, rfl, rfl, by decide +kernel, rfl, by decide +kernel, by decide +kernel⟩
def b_classes_of : FS := (fSeq (fSet 1 (fCall 1 m_numbered (fCons (fComp (fZip (fFld 0 "order" (fV 0)) (fFld 0 "rows" (fV 0))) [6, 5] (gOr (gT 2 (gsCons (gN 6) (gsCons (gN 5) gsNil))) (gL 2 (gsCons (gN 6) (gsCons (gN 5) gsNil)))) fYes (fTup (fCons (fC lenE (fCons (fO ixE (fV 6) (fK (.int 1))) fNil)) (fCons (fO ixE (fV 5) (fK (.int 0))) fNil)))) fNil))) (fSeq (fSet 2 (fK (.int 0))) (fSeq (whileF (fB (fO ltD (fV 2) (fC lenE (fCons (fC setOfD (fCons (fV 1) fNil)) fNil)))) (fSeq (fSet 2 (fC lenE (fCons (fC setOfD (fCons (fV 1) fNil)) fNil))) (fSeq (fSet 3 (fLst fNil)) (fSeq (fFor (fZip (fV 1) (fFld 0 "rows" (fV 0))) (gOr (gT 2 (gsCons (gN 4) (gsCons (gN 5) gsNil))) (gL 2 (gsCons (gN 4) (gsCons (gN 5) gsNil)))) (fDrop ((fM "list" appendD (fV 3) (fCons (fTup (fCons (fV 4) (fCons (fO ixE (fV 1) (fO ixE (fV 5) (fK (.int 1)))) (fCons (fC tupD (fCons (fComp (fSrc (fO ixE (fV 5) (fK (.int 2)))) [7] (gN 7) fYes (fO ixE (fV 1) (fV 7))) fNil)) fNil)))) fNil))))) (fSet 1 (fCall 1 m_numbered (fCons (fV 3) fNil)))))) 1000000) (fRet (fV 1)))))
def m_classes_of : FF := callF 8 b_classes_of
/-! after_hits -/
abbrev s_after_hits : Stmt := top 15
theorem sc_after_hits : FnScope ["policy", "stage", "state", "filled", "hits", "line"] ["policy", "stage"] (defScope s_after_hits) := ⟨rfl, rfl, rfl, by decide +kernel, rfl, by decide +kernel, by decide +kernel⟩
def b_after_hits : FS := (fSeq (fAsg (fV 1) (gOr (gT 2 (gsCons (gN 2) (gsCons (gN 3) gsNil))) (gL 2 (gsCons (gN 2) (gsCons (gN 3) gsNil))))) (fSeq (fSet 4 (fO ixE (fO ixE (fO ixE (fV 0) (fK (.int 1))) (fV 2)) (fK (.int 2)))) (fRet (fComp (fSrc (fV 3)) [5] (gN 5) fYes (fTup (fCons (fO ixE (fV 4) (fV 5)) (fCons (fV 3) fNil)))))))
def m_after_hits : FF := callF 6 b_after_hits
/-! Stages.place_of -/
abbrev s_Stages_place_of : Stmt := inClass (top 16) 1
theorem sc_Stages_place_of : FnScope ["self", "stage"] ["self", "stage"] (defScope s_Stages_place_of) := ⟨rfl, rfl, rfl, by decide +kernel, rfl, by decide +kernel, by decide +kernel⟩
def b_Stages_place_of : FS := (fSeq (fIfS (fB (fO (inE true) (fV 1) (fFld 0 "places" (fV 0)))) (fSeq (fAsg (fC lenE (fCons (fFld 0 "order" (fV 0)) fNil)) (gSE (fFld 0 "places" (fV 0)) (fV 1))) (fDrop ((fM "list" appendD (fFld 0 "order" (fV 0)) (fCons (fV 1) fNil))))) fEnd) (fRet (fO ixE (fFld 0 "places" (fV 0)) (fV 1))))
def m_Stages_place_of : FF := callF 2 b_Stages_place_of
/-! after_miss -/
abbrev s_after_miss : Stmt := top 14
theorem sc_after_miss : FnScope ["policy", "stage", "state", "filled", "victim", "behind", "hits"] ["policy", "stage"] (defScope s_after_miss) := ⟨rfl, rfl, rfl, by decide +kernel, rfl, by decide +kernel, by decide +kernel⟩
def b_after_miss : FS := (fSeq (fAsg (fV 1) (gOr (gT 2 (gsCons (gN 2) (gsCons (gN 3) gsNil))) (gL 2 (gsCons (gN 2) (gsCons (gN 3) gsNil))))) (fSeq (fAsg (fO ixE (fO ixE (fV 0) (fK (.int 1))) (fV 2)) (gOr (gT 3 (gsCons (gN 4) (gsCons (gN 5) (gsCons (gN 6) gsNil)))) (gL 3 (gsCons (gN 4) (gsCons (gN 5) (gsCons (gN 6) gsNil)))))) (fSeq (fIfS (fB (fO (inE false) (fV 4) (fV 3))) (fRet (fTup (fCons (fOr (fM "list" indexD (fV 3) (fCons (fV 4) fNil)) (fM "tuple" tindexD (fV 3) (fCons (fV 4) fNil))) (fCons (fTup (fCons (fV 5) (fCons (fV 3) fNil))) fNil)))) fEnd) (fRet (fTup (fCons (fC lenE (fCons (fV 3) fNil)) (fCons (fTup (fCons (fV 5) (fCons (fTup (fStar (fV 3) (fCons (fV 4) fNil))) fNil))) fNil)))))))
def m_after_miss : FF := callF 7 b_after_miss
/-! Stages.__init__ -/
abbrev s_Stages_init : Stmt := inClass (top 16) 0
theorem sc_Stages_init : FnScope ["self", "policy", "stage", "place", "behind", "after", "goal"] ["self", "policy"] (defScope s_Stages_init) := ⟨rfl, rfl, rfl, by decide +kernel, rfl, by decide +kernel, by decide +kernel⟩
def b_Stages_init : FS := (fSeq (fPut 0 "order" (fV 0) (fLst (fCons (fTup (fCons (fK (.int 0)) (fCons (fTup fNil) fNil))) fNil))) (fSeq (fPut 0 "places" (fV 0) (fDict1N (fTup (fCons (fK (.int 0)) (fCons (fTup fNil) fNil))) (fK (.int 0)))) (fSeq (fPut 0 "rows" (fV 0) (fLst fNil)) (whileF (fB (fO ltD (fC lenE (fCons (fFld 0 "rows" (fV 0)) fNil)) (fC lenE (fCons (fFld 0 "order" (fV 0)) fNil)))) (fSeq (fSet 2 (fO ixE (fFld 0 "order" (fV 0)) (fC lenE (fCons (fFld 0 "rows" (fV 0)) fNil)))) (fSeq (fAsg (fCall 2 m_after_miss (fCons (fV 1) (fCons (fV 2) fNil))) (gOr (gT 2 (gsCons (gN 3) (gsCons (gN 4) gsNil))) (gL 2 (gsCons (gN 3) (gsCons (gN 4) gsNil))))) (fSeq (fSet 5 (fMeth 0 "place_of" 2 m_Stages_place_of (fV 0) (fCons (fV 4) fNil))) (fDrop ((fM "list" appendD (fFld 0 "rows" (fV 0)) (fCons (fTup (fCons (fV 3) (fCons (fV 5) (fCons (fComp (fSrc (fCall 2 m_after_hits (fCons (fV 1) (fCons (fV 2) fNil)))) [6] (gN 6) fYes (fMeth 0 "place_of" 2 m_Stages_place_of (fV 0) (fCons (fV 6) fNil))) fNil)))) fNil))))))) 1000000))))
def m_Stages_init : FF := callF 7 b_Stages_init
/-! is_integer -/
abbrev s_is_integer : Stmt := top 8
theorem sc_is_integer : FnScope ["value"] ["value"] (defScope s_is_integer) := ⟨rfl, rfl, rfl, by decide +kernel, rfl, by decide +kernel, by decide +kernel⟩
def b_is_integer : FS := (fRet ((fAndV (fC isiD (fCons (fV 0) (fCons (fK (.ty "int")) fNil))) (fNotV (fC isiD (fCons (fV 0) (fCons (fK (.ty "bool")) fNil)))))))
def m_is_integer : FF := callF 1 b_is_integer
/-! is_between -/
abbrev s_is_between : Stmt := top 9
theorem sc_is_between : FnScope ["value", "least", "greatest"] ["value", "least", "greatest"] (defScope s_is_between) := ⟨rfl, rfl, rfl, by decide +kernel, rfl, by decide +kernel, by decide +kernel⟩
def b_is_between : FS := (fRet ((fAndV (fCall 1 m_is_integer (fCons (fV 0) fNil)) (fChain leD leD (fV 1) (fV 0) (fV 2)))))
def m_is_between : FF := callF 3 b_is_between
/-! is_row -/
abbrev s_is_row : Stmt := top 10
theorem sc_is_row : FnScope ["value", "lines", "states", "state"] ["value", "lines", "states"] (defScope s_is_row) := ⟨rfl, rfl, rfl, by decide +kernel, rfl, by decide +kernel, by decide +kernel⟩
def b_is_row : FS := (fSeq (fIfS ((fOrT (fNotT (fTr (fC isiD (fCons (fV 0) (fCons (fK (.ty "tuple")) fNil))))) (fOrT (fB (fO (eqD true) (fC lenE (fCons (fV 0) fNil)) (fK (.int 3)))) (fNotT (fTr (fCall 3 m_is_between (fCons (fO ixE (fV 0) (fK (.int 0))) (fCons (fK (.int 0)) (fCons (fO subD (fV 1) (fK (.int 1))) fNil))))))))) (fRet (fK (.bl false))) fEnd) (fSeq (fIfS ((fOrT (fNotT (fTr (fCall 3 m_is_between (fCons (fO ixE (fV 0) (fK (.int 1))) (fCons (fK (.int 0)) (fCons (fO subD (fV 2) (fK (.int 1))) fNil)))))) (fOrT (fNotT (fTr (fC isiD (fCons (fO ixE (fV 0) (fK (.int 2))) (fCons (fK (.ty "tuple")) fNil))))) (fB (fO (eqD true) (fC lenE (fCons (fO ixE (fV 0) (fK (.int 2))) fNil)) (fV 1)))))) (fRet (fK (.bl false))) fEnd) (fRet (fC allD (fCons (fComp (fSrc (fO ixE (fV 0) (fK (.int 2)))) [3] (gN 3) fYes (fCall 3 m_is_between (fCons (fV 3) (fCons (fK (.int 0)) (fCons (fO subD (fV 2) (fK (.int 1))) fNil))))) fNil)))))
def m_is_row : FF := callF 4 b_is_row
/-! is_policy -/
abbrev s_is_policy : Stmt := top 11
theorem sc_is_policy : FnScope ["value", "lines", "rows", "row"] ["value"] (defScope s_is_policy) := ⟨rfl, rfl, rfl, by decide +kernel, rfl, by decide +kernel, by decide +kernel⟩
def b_is_policy : FS := (fSeq (fIfS ((fOrT (fNotT (fTr (fC isiD (fCons (fV 0) (fCons (fK (.ty "tuple")) fNil))))) (fOrT (fB (fO (eqD true) (fC lenE (fCons (fV 0) fNil)) (fK (.int 2)))) (fNotT (fTr (fCall 3 m_is_between (fCons (fO ixE (fV 0) (fK (.int 0))) (fCons (fK (.int 1)) (fCons (fK c_MOST_LINES) fNil))))))))) (fRet (fK (.bl false))) fEnd) (fSeq (fAsg (fV 0) (gOr (gT 2 (gsCons (gN 1) (gsCons (gN 2) gsNil))) (gL 2 (gsCons (gN 1) (gsCons (gN 2) gsNil))))) (fSeq (fIfS ((fOrT (fNotT (fTr (fC isiD (fCons (fV 2) (fCons (fK (.ty "tuple")) fNil))))) (fNotT (fB (fChain leD leD (fK (.int 1)) (fC lenE (fCons (fV 2) fNil)) (fK c_MOST_STATES)))))) (fRet (fK (.bl false))) fEnd) (fRet (fC allD (fCons (fComp (fSrc (fV 2)) [3] (gN 3) fYes (fCall 3 m_is_row (fCons (fV 3) (fCons (fV 1) (fCons (fC lenE (fCons (fV 2) fNil)) fNil))))) fNil))))))
def m_is_policy : FF := callF 4 b_is_policy
/-! check_policy -/
abbrev s_check_policy : Stmt := top 12
theorem sc_check_policy : FnScope ["policy"] ["policy"] (defScope s_check_policy) := ⟨rfl, rfl, rfl, by decide +kernel, rfl, by decide +kernel, by decide +kernel⟩
def b_check_policy : FS := (fIfS (fNotT (fTr (fCall 1 m_is_policy (fCons (fV 0) fNil)))) (fNo) fEnd)
def m_check_policy : FF := callF 1 b_check_policy
/-! plain -/
abbrev s_plain : Stmt := top 20
theorem sc_plain : FnScope ["policy", "stages", "classes", "order", "known", "lines", "rows", "number", "index", "place", "after", "hits", "goals", "state", "filled", "goal"] ["policy"] (defScope s_plain) := ⟨rfl, rfl, rfl, by decide +kernel, rfl, by decide +kernel, by decide +kernel⟩
def b_plain : FS := (fSeq (fDrop (fCall 1 m_check_policy (fCons (fV 0) fNil))) (fSeq (fSet 1 (fMake 0 2 m_Stages_init (fCons (fV 0) fNil))) (fSeq (fSet 2 (fCall 1 m_classes_of (fCons (fV 1) fNil))) (fSeq (fAsg (fCall 2 m_firsts_of (fCons (fV 1) (fCons (fV 2) fNil))) (gOr (gT 2 (gsCons (gN 3) (gsCons (gN 4) gsNil))) (gL 2 (gsCons (gN 3) (gsCons (gN 4) gsNil))))) (fSeq (fIfS (fB (fO gtD (fC lenE (fCons (fV 3) fNil)) (fK c_MOST_STATES))) (fNo) fEnd) (fSeq (fSet 5 (fC maxD (fCons (fComp (fSrc (fFld 0 "order" (fV 1))) [13, 14] (gOr (gT 2 (gsCons (gN 13) (gsCons (gN 14) gsNil))) (gL 2 (gsCons (gN 13) (gsCons (gN 14) gsNil)))) fYes (fC lenE (fCons (fV 14) fNil))) fNil))) (fSeq (fSet 6 (fLst fNil)) (fSeq (fFor (fEnum (fV 3)) (gOr (gT 2 (gsCons (gN 7) (gsCons (gN 8) gsNil))) (gL 2 (gsCons (gN 7) (gsCons (gN 8) gsNil)))) (fSeq (fAsg (fO ixE (fFld 0 "rows" (fV 1)) (fV 8)) (gOr (gT 3 (gsCons (gN 9) (gsCons (gN 10) (gsCons (gN 11) gsNil)))) (gL 3 (gsCons (gN 9) (gsCons (gN 10) (gsCons (gN 11) gsNil)))))) (fSeq (fSet 12 (fComp (fSrc (fV 11)) [15] (gN 15) fYes (fO ixE (fV 4) (fO ixE (fV 2) (fV 15))))) (fDrop ((fM "list" appendD (fV 6) (fCons (fTup (fCons (fV 9) (fCons (fO ixE (fV 4) (fO ixE (fV 2) (fV 10))) (fCons (fC tupD (fCons (fO addD (fV 12) (fO mulD (fLst (fCons (fV 7) fNil)) (fO subD (fV 5) (fC lenE (fCons (fV 12) fNil))))) fNil)) fNil)))) fNil))))))) (fRet (fTup (fCons (fV 5) (fCons (fC tupD (fCons (fV 6) fNil)) fNil))))))))))))
def m_plain : FF := callF 16 b_plain
/-! _law_draw -/
abbrev s__law_draw : Stmt := top 24
theorem sc__law_draw : FnScope ["_law_pool_here", "_law_most", "_law_state", "_law_digit"] ["_law_pool_here", "_law_most"] (defScope s__law_draw) := ⟨rfl, rfl, rfl, by decide +kernel, rfl, by decide +kernel, by decide +kernel⟩
def b__law_draw : FS := (fSeq (fAsg (fO addD (fO ixE (fV 0) (fK (.int 2))) (fK (.int 1))) (gSE (fV 0) (fK (.int 2)))) (fSeq (fSet 2 (fC intD (fCons (fO ixE (fV 0) (fK (.int 0))) fNil))) (fSeq (fAsg (fO modD (fO addD (fO mulD (fV 2) (fO addD (fO modD (fV 2) (fK (.int 50021))) (fK (.int 30011)))) (fO mulD (fK (.int 80021)) (fO ixE (fV 0) (fK (.int 2))))) (fK (.int 2147483249))) (gSE (fV 0) (fK (.int 0)))) (fSeq (fIfS (fB (fO gtD (fO ixE (fV 0) (fK (.int 1))) (fK (.int 0)))) (fSeq (fAsg (fC divmodD (fCons (fO ixE (fV 0) (fK (.int 1))) (fCons (fV 1) fNil))) (gOr (gT 2 (gsCons (gSE (fV 0) (fK (.int 1))) (gsCons (gN 3) gsNil))) (gL 2 (gsCons (gSE (fV 0) (fK (.int 1))) (gsCons (gN 3) gsNil))))) (fRet (fV 3))) fEnd) (fRet (fO modD (fO fdivD (fO ixE (fV 0) (fK (.int 0))) (fK (.int 64))) (fV 1)))))))
def m__law_draw : FF := callF 4 b__law_draw
/-! _law_first -/
abbrev s__law_first : Stmt := top 25
theorem sc__law_first : FnScope ["_law_queue", "_law_single", "_law_some"] [] (defScope s__law_first) := ⟨rfl, rfl, rfl, by decide +kernel, rfl, by decide +kernel, by decide +kernel⟩
def b__law_first : FS := (fSeq (fSet 0 (fTup (fCons (fK (.int 2)) (fCons (fTup (fCons (fTup (fCons (fK (.int 0)) (fCons (fK (.int 1)) (fCons (fTup (fCons (fK (.int 0)) (fCons (fK (.int 0)) fNil))) fNil)))) (fCons (fTup (fCons (fK (.int 1)) (fCons (fK (.int 2)) (fCons (fTup (fCons (fK (.int 1)) (fCons (fK (.int 1)) fNil))) fNil)))) (fCons (fTup (fCons (fK (.int 0)) (fCons (fK (.int 3)) (fCons (fTup (fCons (fK (.int 2)) (fCons (fK (.int 2)) fNil))) fNil)))) (fCons (fTup (fCons (fK (.int 1)) (fCons (fK (.int 2)) (fCons (fTup (fCons (fK (.int 3)) (fCons (fK (.int 3)) fNil))) fNil)))) fNil))))) fNil)))) (fSeq (fSet 1 (fTup (fCons (fK (.int 1)) (fCons (fTup (fCons (fTup (fCons (fK (.int 0)) (fCons (fK (.int 1)) (fCons (fTup (fCons (fK (.int 0)) fNil)) fNil)))) (fCons (fTup (fCons (fK (.int 0)) (fCons (fK (.int 1)) (fCons (fTup (fCons (fK (.int 1)) fNil)) fNil)))) fNil))) fNil)))) (fSeq (fSet 2 (fLst (fCons (fTup (fCons (fTup (fCons (fK (.int 2)) (fCons (fTup (fCons (fTup (fCons (fK (.int 0)) (fCons (fK (.int 1)) (fCons (fTup (fCons (fK (.int 0)) (fCons (fK (.int 0)) fNil))) fNil)))) (fCons (fTup (fCons (fK (.int 1)) (fCons (fK (.int 0)) (fCons (fTup (fCons (fK (.int 1)) (fCons (fK (.int 1)) fNil))) fNil)))) fNil))) fNil))) (fCons (fV 0) fNil))) (fCons (fTup (fCons (fTup (fCons (fK (.int 2)) (fCons (fTup (fCons (fTup (fCons (fK (.int 1)) (fCons (fK (.int 1)) (fCons (fTup (fCons (fK (.int 0)) (fCons (fK (.int 0)) fNil))) fNil)))) (fCons (fTup (fCons (fK (.int 0)) (fCons (fK (.int 0)) (fCons (fTup (fCons (fK (.int 1)) (fCons (fK (.int 1)) fNil))) fNil)))) fNil))) fNil))) (fCons (fV 0) fNil))) fNil)))) (fSeq (fDrop ((fM "list" appendD (fV 2) (fCons (fTup (fCons (fTup (fCons (fK (.int 3)) (fCons (fTup (fCons (fTup (fCons (fK (.int 0)) (fCons (fK (.int 1)) (fCons (fTup (fCons (fK (.int 0)) (fCons (fK (.int 0)) (fCons (fK (.int 0)) fNil)))) fNil)))) (fCons (fTup (fCons (fK (.int 2)) (fCons (fK (.int 0)) (fCons (fTup (fCons (fK (.int 1)) (fCons (fK (.int 1)) (fCons (fK (.int 1)) fNil)))) fNil)))) fNil))) fNil))) (fCons (fV 0) fNil))) fNil)))) (fSeq (fDrop ((fM "list" appendD (fV 2) (fCons (fTup (fCons (fTup (fCons (fK (.int 2)) (fCons (fTup (fCons (fTup (fCons (fK (.int 0)) (fCons (fK (.int 1)) (fCons (fTup (fCons (fK (.int 2)) (fCons (fK (.int 0)) fNil))) fNil)))) (fCons (fTup (fCons (fK (.int 1)) (fCons (fK (.int 2)) (fCons (fTup (fCons (fK (.int 1)) (fCons (fK (.int 1)) fNil))) fNil)))) (fCons (fTup (fCons (fK (.int 0)) (fCons (fK (.int 1)) (fCons (fTup (fCons (fK (.int 0)) (fCons (fK (.int 2)) fNil))) fNil)))) fNil)))) fNil))) (fCons (fV 0) fNil))) fNil)))) (fSeq (fDrop ((fM "list" appendD (fV 2) (fCons (fTup (fCons (fTup (fCons (fK (.int 2)) (fCons (fTup (fCons (fTup (fCons (fK (.int 0)) (fCons (fK (.int 1)) (fCons (fTup (fCons (fK (.int 0)) (fCons (fK (.int 0)) fNil))) fNil)))) (fCons (fTup (fCons (fK (.int 1)) (fCons (fK (.int 0)) (fCons (fTup (fCons (fK (.int 1)) (fCons (fK (.int 1)) fNil))) fNil)))) (fCons (fTup (fCons (fK (.int 1)) (fCons (fK (.int 2)) (fCons (fTup (fCons (fK (.int 0)) (fCons (fK (.int 1)) fNil))) fNil)))) fNil)))) fNil))) (fCons (fV 0) fNil))) fNil)))) (fSeq (fSet 2 (fO addD (fV 2) (fLst (fCons (fTup (fCons (fTup (fCons (fK (.int 1)) (fCons (fTup (fCons (fTup (fCons (fK (.int 0)) (fCons (fK (.int 0)) (fCons (fTup (fCons (fK (.int 0)) fNil)) fNil)))) fNil)) fNil))) (fCons (fV 1) fNil))) (fCons (fTup (fCons (fTup (fCons (fK (.int 1)) (fCons (fTup (fCons (fTup (fCons (fK (.int 0)) (fCons (fK (.int 1)) (fCons (fTup (fCons (fK (.int 1)) fNil)) fNil)))) (fCons (fTup (fCons (fK (.int 0)) (fCons (fK (.int 0)) (fCons (fTup (fCons (fK (.int 0)) fNil)) fNil)))) fNil))) fNil))) (fCons (fV 1) fNil))) fNil))))) (fRet (fO addD (fV 2) (fLst (fCons (fTup (fCons (fTup (fCons (fK (.int 2)) (fCons (fTup (fCons (fTup (fCons (fK (.int 0)) (fCons (fK (.int 0)) (fCons (fTup (fCons (fK (.int 0)) (fCons (fK (.int 0)) fNil))) fNil)))) fNil)) fNil))) (fCons (fV 1) fNil))) (fCons (fTup (fCons (fTup (fCons (fK (.int 4)) (fCons (fTup (fCons (fTup (fCons (fK (.int 3)) (fCons (fK (.int 1)) (fCons (fTup (fCons (fK (.int 0)) (fCons (fK (.int 1)) (fCons (fK (.int 0)) (fCons (fK (.int 1)) fNil))))) fNil)))) (fCons (fTup (fCons (fK (.int 3)) (fCons (fK (.int 0)) (fCons (fTup (fCons (fK (.int 1)) (fCons (fK (.int 1)) (fCons (fK (.int 1)) (fCons (fK (.int 0)) fNil))))) fNil)))) fNil))) fNil))) (fCons (fV 1) fNil))) fNil))))))))))))
def m__law_first : FF := callF 3 b__law_first
/-! _law_second -/
abbrev s__law_second : Stmt := top 26
theorem sc__law_second : FnScope ["_law_recent", "_law_some", "_law_last", "_law_both", "_law_late"] [] (defScope s__law_second) := ⟨rfl, rfl, rfl, by decide +kernel, rfl, by decide +kernel, by decide +kernel⟩
def b__law_second : FS := (fSeq (fSet 0 (fTup (fCons (fK (.int 2)) (fCons (fTup (fCons (fTup (fCons (fK (.int 0)) (fCons (fK (.int 1)) (fCons (fTup (fCons (fK (.int 0)) (fCons (fK (.int 0)) fNil))) fNil)))) (fCons (fTup (fCons (fK (.int 1)) (fCons (fK (.int 2)) (fCons (fTup (fCons (fK (.int 1)) (fCons (fK (.int 1)) fNil))) fNil)))) (fCons (fTup (fCons (fK (.int 0)) (fCons (fK (.int 3)) (fCons (fTup (fCons (fK (.int 3)) (fCons (fK (.int 2)) fNil))) fNil)))) (fCons (fTup (fCons (fK (.int 1)) (fCons (fK (.int 2)) (fCons (fTup (fCons (fK (.int 3)) (fCons (fK (.int 2)) fNil))) fNil)))) fNil))))) fNil)))) (fSeq (fSet 1 (fLst (fCons (fTup (fCons (fTup (fCons (fK (.int 2)) (fCons (fTup (fCons (fTup (fCons (fK (.int 0)) (fCons (fK (.int 1)) (fCons (fTup (fCons (fK (.int 1)) (fCons (fK (.int 0)) fNil))) fNil)))) (fCons (fTup (fCons (fK (.int 1)) (fCons (fK (.int 0)) (fCons (fTup (fCons (fK (.int 1)) (fCons (fK (.int 0)) fNil))) fNil)))) fNil))) fNil))) (fCons (fV 0) fNil))) (fCons (fTup (fCons (fTup (fCons (fK (.int 2)) (fCons (fTup (fCons (fTup (fCons (fK (.int 1)) (fCons (fK (.int 1)) (fCons (fTup (fCons (fK (.int 0)) (fCons (fK (.int 1)) fNil))) fNil)))) (fCons (fTup (fCons (fK (.int 0)) (fCons (fK (.int 0)) (fCons (fTup (fCons (fK (.int 0)) (fCons (fK (.int 1)) fNil))) fNil)))) fNil))) fNil))) (fCons (fV 0) fNil))) fNil)))) (fSeq (fSet 2 (fTup (fCons (fK (.int 2)) (fCons (fTup (fCons (fTup (fCons (fK (.int 0)) (fCons (fK (.int 1)) (fCons (fTup (fCons (fK (.int 0)) (fCons (fK (.int 0)) fNil))) fNil)))) (fCons (fTup (fCons (fK (.int 1)) (fCons (fK (.int 2)) (fCons (fTup (fCons (fK (.int 1)) (fCons (fK (.int 1)) fNil))) fNil)))) (fCons (fTup (fCons (fK (.int 1)) (fCons (fK (.int 2)) (fCons (fTup (fCons (fK (.int 3)) (fCons (fK (.int 2)) fNil))) fNil)))) (fCons (fTup (fCons (fK (.int 0)) (fCons (fK (.int 3)) (fCons (fTup (fCons (fK (.int 3)) (fCons (fK (.int 2)) fNil))) fNil)))) fNil))))) fNil)))) (fSeq (fSet 1 (fO addD (fV 1) (fLst (fCons (fTup (fCons (fV 2) (fCons (fV 2) fNil))) (fCons (fO mulD (fTup (fCons (fTup (fCons (fK (.int 2)) (fCons (fTup (fCons (fTup (fCons (fK (.int 0)) (fCons (fK (.int 1)) (fCons (fTup (fCons (fK (.int 0)) (fCons (fK (.int 0)) fNil))) fNil)))) (fCons (fTup (fCons (fK (.int 1)) (fCons (fK (.int 2)) (fCons (fTup (fCons (fK (.int 1)) (fCons (fK (.int 1)) fNil))) fNil)))) (fCons (fTup (fCons (fK (.int 1)) (fCons (fK (.int 2)) (fCons (fTup (fCons (fK (.int 2)) (fCons (fK (.int 2)) fNil))) fNil)))) fNil)))) fNil))) fNil)) (fK (.int 2))) fNil))))) (fSeq (fSet 3 (fTup (fCons (fK (.int 2)) (fCons (fTup (fCons (fTup (fCons (fK (.int 0)) (fCons (fK (.int 1)) (fCons (fTup (fCons (fK (.int 0)) (fCons (fK (.int 0)) fNil))) fNil)))) (fCons (fTup (fCons (fK (.int 1)) (fCons (fK (.int 2)) (fCons (fTup (fCons (fK (.int 3)) (fCons (fK (.int 1)) fNil))) fNil)))) (fCons (fTup (fCons (fK (.int 0)) (fCons (fK (.int 2)) (fCons (fTup (fCons (fK (.int 2)) (fCons (fK (.int 2)) fNil))) fNil)))) (fCons (fTup (fCons (fK (.int 1)) (fCons (fK (.int 4)) (fCons (fTup (fCons (fK (.int 3)) (fCons (fK (.int 3)) fNil))) fNil)))) (fCons (fTup (fCons (fK (.int 1)) (fCons (fK (.int 4)) (fCons (fTup (fCons (fK (.int 4)) (fCons (fK (.int 4)) fNil))) fNil)))) fNil)))))) fNil)))) (fSeq (fDrop ((fM "list" appendD (fV 1) (fCons (fTup (fCons (fTup (fCons (fK (.int 2)) (fCons (fTup (fCons (fTup (fCons (fK (.int 0)) (fCons (fK (.int 1)) (fCons (fTup (fCons (fK (.int 0)) (fCons (fK (.int 0)) fNil))) fNil)))) (fCons (fTup (fCons (fK (.int 1)) (fCons (fK (.int 2)) (fCons (fTup (fCons (fK (.int 3)) (fCons (fK (.int 1)) fNil))) fNil)))) (fCons (fTup (fCons (fK (.int 0)) (fCons (fK (.int 2)) (fCons (fTup (fCons (fK (.int 2)) (fCons (fK (.int 2)) fNil))) fNil)))) (fCons (fTup (fCons (fK (.int 1)) (fCons (fK (.int 3)) (fCons (fTup (fCons (fK (.int 3)) (fCons (fK (.int 3)) fNil))) fNil)))) fNil))))) fNil))) (fCons (fV 3) fNil))) fNil)))) (fSeq (fSet 4 (fTup (fCons (fK (.int 2)) (fCons (fTup (fCons (fTup (fCons (fK (.int 0)) (fCons (fK (.int 1)) (fCons (fTup (fCons (fK (.int 0)) (fCons (fK (.int 0)) fNil))) fNil)))) (fCons (fTup (fCons (fK (.int 0)) (fCons (fK (.int 1)) (fCons (fTup (fCons (fK (.int 2)) (fCons (fK (.int 1)) fNil))) fNil)))) (fCons (fTup (fCons (fK (.int 1)) (fCons (fK (.int 3)) (fCons (fTup (fCons (fK (.int 2)) (fCons (fK (.int 2)) fNil))) fNil)))) (fCons (fTup (fCons (fK (.int 0)) (fCons (fK (.int 3)) (fCons (fTup (fCons (fK (.int 4)) (fCons (fK (.int 4)) fNil))) fNil)))) (fCons (fTup (fCons (fK (.int 1)) (fCons (fK (.int 3)) (fCons (fTup (fCons (fK (.int 4)) (fCons (fK (.int 4)) fNil))) fNil)))) fNil)))))) fNil)))) (fRet (fO addD (fV 1) (fLst (fCons (fTup (fCons (fTup (fCons (fK (.int 2)) (fCons (fTup (fCons (fTup (fCons (fK (.int 0)) (fCons (fK (.int 0)) (fCons (fTup (fCons (fK (.int 1)) (fCons (fK (.int 1)) fNil))) fNil)))) (fCons (fTup (fCons (fK (.int 1)) (fCons (fK (.int 0)) (fCons (fTup (fCons (fK (.int 1)) (fCons (fK (.int 1)) fNil))) fNil)))) fNil))) fNil))) (fCons (fV 4) fNil))) (fCons (fTup (fCons (fTup (fCons (fK (.int 2)) (fCons (fTup (fCons (fTup (fCons (fK (.int 1)) (fCons (fK (.int 0)) (fCons (fTup (fCons (fK (.int 1)) (fCons (fK (.int 1)) fNil))) fNil)))) (fCons (fTup (fCons (fK (.int 0)) (fCons (fK (.int 0)) (fCons (fTup (fCons (fK (.int 1)) (fCons (fK (.int 1)) fNil))) fNil)))) fNil))) fNil))) (fCons (fV 4) fNil))) fNil))))))))))))
def m__law_second : FF := callF 5 b__law_second
/-! _law_right -/
abbrev s__law_right : Stmt := top 27
theorem sc__law_right : FnScope ["_law_pool_here", "_law_some", "_law_turn", "_law_table", "_law_due", "_law_told"] ["_law_pool_here"] (defScope s__law_right) := ⟨rfl, rfl, rfl, by decide +kernel, rfl, by decide +kernel, by decide +kernel⟩
def b__law_right : FS := (fSeq (fSet 1 (fO addD (fCall 0 m__law_first fNil) (fCall 0 m__law_second fNil))) (fSeq (fFor (fRng1 (fK (.int 6))) (gN 2) (fSeq (fAsg (fO ixE (fV 1) (fCall 2 m__law_draw (fCons (fV 0) (fCons (fC lenE (fCons (fV 1) fNil)) fNil)))) (gOr (gT 2 (gsCons (gN 3) (gsCons (gN 4) gsNil))) (gL 2 (gsCons (gN 3) (gsCons (gN 4) gsNil))))) (fSeq (fSet 5 (fLst (fCons (fCall 1 m_plain (fCons (fV 3) fNil)) (fCons (fCallK 1 1 [0] m_plain (fCons (fV 3) fNil)) (fCons (fCall 1 m_plain (fCons (fV 4) fNil)) (fCons (fCall 1 m_plain (fCons (fCall 1 m_plain (fCons (fV 3) fNil)) fNil)) fNil)))))) (fIfS (fB (fO (eqD true) (fC reprE (fCons (fV 5) fNil)) (fC reprE (fCons (fO mulD (fLst (fCons (fV 4) fNil)) (fK (.int 4))) fNil)))) (fRet (fK (.bl false))) fEnd)))) (fRet (fK (.bl true)))))
def m__law_right : FF := callF 6 b__law_right
/-! _law_pool -/
abbrev s__law_pool : Stmt := top 23
theorem sc__law_pool : FnScope ["_law_figure", "_law_digits"] ["_law_figure"] (defScope s__law_pool) := ⟨rfl, rfl, rfl, by decide +kernel, rfl, by decide +kernel, by decide +kernel⟩
def b__law_pool : FS := (fSeq (fSet 1 (fIf ((fOrT (fB (fO ltD (fV 0) (fK (.int 0)))) (fB (fO geD (fV 0) (fO powD (fK (.int 10)) (fK (.int 18))))))) (fC absD (fCons (fV 0) fNil)) (fK (.int 0)))) (fRet (fLst (fCons (fO modD (fC intD (fCons (fV 0) fNil)) (fK (.int 2147483249))) (fCons (fV 1) (fCons (fK (.int 0)) fNil))))))
def m__law_pool : FF := callF 2 b__law_pool
/-! _law_cell -/
abbrev s__law_cell : Stmt := top 22
theorem sc__law_cell : FnScope ["_law_script", "_law_k", "_law_state", "_law_figure"] ["_law_script", "_law_k"] (defScope s__law_cell) := ⟨rfl, rfl, rfl, by decide +kernel, rfl, by decide +kernel, by decide +kernel⟩
def b__law_cell : FS := (fSeq (fIfS (fB (fO ltD (fV 1) (fC lenE (fCons (fV 0) fNil)))) (fRet (fC intD (fCons (fO ixE (fV 0) (fV 1)) fNil))) fEnd) (fSeq (fSet 2 (fO modD (fO mulD (fK (.int 60013)) (fO addD (fO addD (fO mulD (fV 1) (fV 1)) (fO mulD (fK (.int 5)) (fV 1))) (fK (.int 3)))) (fK (.int 2147483249)))) (fSeq (fFor (fSrc (fSl (fV 0) fNoP (fP (fK (.int 3))))) (gN 3) (fSet 2 (fO modD (fO addD (fO mulD (fV 2) (fK (.int 41221))) (fC intD (fCons (fV 3) fNil))) (fK (.int 2147483249))))) (fRet (fV 2)))))
def m__law_cell : FF := callF 4 b__law_cell
/-! law -/
abbrev s_law : Stmt := top 28
theorem sc_law : FnScope ["_law_script", "_law_table", "_law_due", "_law_k"] ["_law_script"] (defScope s_law) := ⟨rfl, rfl, rfl, by decide +kernel, rfl, by decide +kernel, by decide +kernel⟩
def b_law : FS := (fSeq (fIfS (fB (fO (eqD true) (fComp (fSrc (fCall 0 m__law_first fNil)) [1, 2] (gOr (gT 2 (gsCons (gN 1) (gsCons (gN 2) gsNil))) (gL 2 (gsCons (gN 1) (gsCons (gN 2) gsNil)))) fYes (fC reprE (fCons (fCall 1 m_plain (fCons (fV 1) fNil)) fNil))) (fComp (fSrc (fCall 0 m__law_first fNil)) [1, 2] (gOr (gT 2 (gsCons (gN 1) (gsCons (gN 2) gsNil))) (gL 2 (gsCons (gN 1) (gsCons (gN 2) gsNil)))) fYes (fC reprE (fCons (fV 2) fNil))))) (fRet (fK (.bl false))) fEnd) (fSeq (fIfS (fB (fO (eqD true) (fComp (fSrc (fCall 0 m__law_second fNil)) [1, 2] (gOr (gT 2 (gsCons (gN 1) (gsCons (gN 2) gsNil))) (gL 2 (gsCons (gN 1) (gsCons (gN 2) gsNil)))) fYes (fC reprE (fCons (fCall 1 m_plain (fCons (fV 1) fNil)) fNil))) (fComp (fSrc (fCall 0 m__law_second fNil)) [1, 2] (gOr (gT 2 (gsCons (gN 1) (gsCons (gN 2) gsNil))) (gL 2 (gsCons (gN 1) (gsCons (gN 2) gsNil)))) fYes (fC reprE (fCons (fV 2) fNil))))) (fRet (fK (.bl false))) fEnd) (fRet (fC allD (fCons (fComp (fRng1 (fC maxD (fCons (fK (.int 2)) (fCons (fC minD (fCons (fC lenE (fCons (fV 0) fNil)) (fCons (fK (.int 6)) fNil))) fNil)))) [3] (gN 3) fYes (fCall 1 m__law_right (fCons (fCall 1 m__law_pool (fCons (fCall 2 m__law_cell (fCons (fV 0) (fCons (fV 3) fNil))) fNil)) fNil))) fNil)))))
def m_law : FF := callF 4 b_law
structure Top (K : Frg) (mg : Str → Option Value) where
  C_Stages : Addr
  f_firsts_of : Addr
  d_firsts_of : FuncData
  F_firsts_of : Fun K "firsts_of" "firsts_of" s_firsts_of f_firsts_of d_firsts_of
  b_firsts_of : Binds K d_firsts_of ["stages", "classes"] []
  m_firsts_of : mg "firsts_of" = some (.ref f_firsts_of)
  f_numbered : Addr
  d_numbered : FuncData
  F_numbered : Fun K "numbered" "numbered" s_numbered f_numbered d_numbered
  b_numbered : Binds K d_numbered ["keys"] []
  m_numbered : mg "numbered" = some (.ref f_numbered)
  f_classes_of : Addr
  d_classes_of : FuncData
  F_classes_of : Fun K "classes_of" "classes_of" s_classes_of f_classes_of d_classes_of
  b_classes_of : Binds K d_classes_of ["stages"] []
  m_classes_of : mg "classes_of" = some (.ref f_classes_of)
  f_after_hits : Addr
  d_after_hits : FuncData
  F_after_hits : Fun K "after_hits" "after_hits" s_after_hits f_after_hits d_after_hits
  b_after_hits : Binds K d_after_hits ["policy", "stage"] []
  m_after_hits : mg "after_hits" = some (.ref f_after_hits)
  f_Stages_place_of : Addr
  d_Stages_place_of : FuncData
  F_Stages_place_of : Fun K "place_of" "Stages.place_of" s_Stages_place_of f_Stages_place_of d_Stages_place_of
  b_Stages_place_of : Binds K d_Stages_place_of ["self", "stage"] []
  me_Stages_place_of : Meth K C_Stages "place_of" f_Stages_place_of
  f_after_miss : Addr
  d_after_miss : FuncData
  F_after_miss : Fun K "after_miss" "after_miss" s_after_miss f_after_miss d_after_miss
  b_after_miss : Binds K d_after_miss ["policy", "stage"] []
  m_after_miss : mg "after_miss" = some (.ref f_after_miss)
  f_Stages_init : Addr
  d_Stages_init : FuncData
  F_Stages_init : Fun K "__init__" "Stages.__init__" s_Stages_init f_Stages_init d_Stages_init
  b_Stages_init : Binds K d_Stages_init ["self", "policy"] []
  mk_Stages : Mk K C_Stages f_Stages_init
  f_is_integer : Addr
  d_is_integer : FuncData
  F_is_integer : Fun K "is_integer" "is_integer" s_is_integer f_is_integer d_is_integer
  b_is_integer : Binds K d_is_integer ["value"] []
  m_is_integer : mg "is_integer" = some (.ref f_is_integer)
  f_is_between : Addr
  d_is_between : FuncData
  F_is_between : Fun K "is_between" "is_between" s_is_between f_is_between d_is_between
  b_is_between : Binds K d_is_between ["value", "least", "greatest"] []
  m_is_between : mg "is_between" = some (.ref f_is_between)
  f_is_row : Addr
  d_is_row : FuncData
  F_is_row : Fun K "is_row" "is_row" s_is_row f_is_row d_is_row
  b_is_row : Binds K d_is_row ["value", "lines", "states"] []
  m_is_row : mg "is_row" = some (.ref f_is_row)
  f_is_policy : Addr
  d_is_policy : FuncData
  F_is_policy : Fun K "is_policy" "is_policy" s_is_policy f_is_policy d_is_policy
  b_is_policy : Binds K d_is_policy ["value"] []
  m_is_policy : mg "is_policy" = some (.ref f_is_policy)
  f_check_policy : Addr
  d_check_policy : FuncData
  F_check_policy : Fun K "check_policy" "check_policy" s_check_policy f_check_policy d_check_policy
  b_check_policy : Binds K d_check_policy ["policy"] []
  m_check_policy : mg "check_policy" = some (.ref f_check_policy)
  f_plain : Addr
  d_plain : FuncData
  F_plain : Fun K "plain" "plain" s_plain f_plain d_plain
  b_plain : Binds K d_plain ["policy"] []
  m_plain : mg "plain" = some (.ref f_plain)
  f__law_draw : Addr
  d__law_draw : FuncData
  F__law_draw : Fun K "_law_draw" "_law_draw" s__law_draw f__law_draw d__law_draw
  b__law_draw : Binds K d__law_draw ["_law_pool_here", "_law_most"] []
  m__law_draw : mg "_law_draw" = some (.ref f__law_draw)
  f__law_first : Addr
  d__law_first : FuncData
  F__law_first : Fun K "_law_first" "_law_first" s__law_first f__law_first d__law_first
  b__law_first : Binds K d__law_first [] []
  m__law_first : mg "_law_first" = some (.ref f__law_first)
  f__law_second : Addr
  d__law_second : FuncData
  F__law_second : Fun K "_law_second" "_law_second" s__law_second f__law_second d__law_second
  b__law_second : Binds K d__law_second [] []
  m__law_second : mg "_law_second" = some (.ref f__law_second)
  f__law_right : Addr
  d__law_right : FuncData
  F__law_right : Fun K "_law_right" "_law_right" s__law_right f__law_right d__law_right
  b__law_right : Binds K d__law_right ["_law_pool_here"] []
  m__law_right : mg "_law_right" = some (.ref f__law_right)
  f__law_pool : Addr
  d__law_pool : FuncData
  F__law_pool : Fun K "_law_pool" "_law_pool" s__law_pool f__law_pool d__law_pool
  b__law_pool : Binds K d__law_pool ["_law_figure"] []
  m__law_pool : mg "_law_pool" = some (.ref f__law_pool)
  f__law_cell : Addr
  d__law_cell : FuncData
  F__law_cell : Fun K "_law_cell" "_law_cell" s__law_cell f__law_cell d__law_cell
  b__law_cell : Binds K d__law_cell ["_law_script", "_law_k"] []
  m__law_cell : mg "_law_cell" = some (.ref f__law_cell)
  f_law : Addr
  d_law : FuncData
  F_law : Fun K "law" "law" s_law f_law d_law
  b_law : Binds K d_law ["_law_script"] []
  m_law : mg "law" = some (.ref f_law)
  cl_Stages : Cls K C_Stages
  mC_Stages : mg "Stages" = some (.ref C_Stages)
  na_Stages_order : NoAttr K C_Stages "order"
  na_Stages_places : NoAttr K C_Stages "places"
  na_Stages_rows : NoAttr K C_Stages "rows"
  n_abs : mg "abs" = none
  n_all : mg "all" = none
  n_bool : mg "bool" = none
  n_divmod : mg "divmod" = none
  n_enumerate : mg "enumerate" = none
  n_int : mg "int" = none
  n_isinstance : mg "isinstance" = none
  n_len : mg "len" = none
  n_max : mg "max" = none
  n_min : mg "min" = none
  n_range : mg "range" = none
  n_repr : mg "repr" = none
  n_set : mg "set" = none
  n_tuple : mg "tuple" = none
  n_zip : mg "zip" = none
  g_MOST_LINES : GlobIs K mg "MOST_LINES" c_MOST_LINES
  g_MOST_STATES : GlobIs K mg "MOST_STATES" c_MOST_STATES
  kw_plain_0 : KwB K d_plain ["policy"] ["policy"] [0]
def Top.ct {K : Frg} {mg : Str → Option Value} (T : Top K mg) (P : Program) (w : World) : Ct := ⟨fun n => ([some T.C_Stages] : List (Option Addr)).getD n none, P, w⟩
theorem Top.e_MOST_LINES {X : Cx} {ct : Ct} {pos : Pos} (T : Top X.K X.mg) (hg : Gl X "MOST_LINES") : SE X ct (.Name "MOST_LINES" pos) (fK c_MOST_LINES) := se_globIs hg T.g_MOST_LINES
theorem Top.e_MOST_STATES {X : Cx} {ct : Ct} {pos : Pos} (T : Top X.K X.mg) (hg : Gl X "MOST_STATES") : SE X ct (.Name "MOST_STATES" pos) (fK c_MOST_STATES) := se_globIs hg T.g_MOST_STATES
section
variable {P : Program} {w : World} {K : Frg} {mg : Str → Option Value} {base : Heap}
theorem ok_firsts_of (T : Top K mg) : FnG P w K mg base 1 T.f_firsts_of T.d_firsts_of ["stages", "classes"] (spF K (T.ct P w) m_firsts_of 2) := fn_sim T.F_firsts_of sc_firsts_of fun cdv A outer s H E hr hgd =>
  (ss_cons (by exact ss_par (i := 2) (j := 3) rfl sc_firsts_of.nd rfl rfl (by decide) rfl rfl (by exact (sa_cons (by exact se_lst (by exact (sa_cons (by exact se_int) sa_nil))) (sa_cons (by exact se_dict1K (by exact se_ixE (hu65 hr) (by exact sv_l 1) (by exact se_int)) (by exact se_int)) sa_nil))) (by rfl)) (by exact (ss_cons (by exact ss_set (i := 4) sc_firsts_of.nd rfl (Or.inl rfl) (by exact se_int)) (by exact (ss_cons (by exact ss_while 1000000 PassesOwn.never (by exact st_cmp so_lt (by exact sv_l 4) (by exact se_callB sc_lenE (by rfl) (by exact T.n_len) (by decide +kernel) (by exact (sa_cons (by exact sv_l 2) sa_nil))) (nomark _)) (by exact (ss_cons (by exact ss_asg (by exact se_ixE (hu65 hr) (by exact se_fld (C := T.C_Stages) (by exact sv_l 0) rfl (by exact T.cl_Stages) (by exact T.na_Stages_rows)) (by exact se_ixE (hu65 hr) (by exact sv_l 2) (by exact sv_l 4))) (by exact (sg_or2 (sg_tup rfl (sgs_cons (by exact (sg_name (ws := [5, 6, 7]) (i := 5) sc_firsts_of.nd rfl (Or.inl rfl) (by decide))) (sgs_cons (by exact (sg_name (ws := [5, 6, 7]) (i := 6) sc_firsts_of.nd rfl (Or.inl rfl) (by decide))) (sgs_cons (by exact (sg_name (ws := [5, 6, 7]) (i := 7) sc_firsts_of.nd rfl (Or.inl rfl) (by decide))) sgs_nil)))) (sg_unl rfl (sgs_cons (by exact (sg_name (ws := [5, 6, 7]) (i := 5) sc_firsts_of.nd rfl (Or.inl rfl) (by decide))) (sgs_cons (by exact (sg_name (ws := [5, 6, 7]) (i := 6) sc_firsts_of.nd rfl (Or.inl rfl) (by decide))) (sgs_cons (by exact (sg_name (ws := [5, 6, 7]) (i := 7) sc_firsts_of.nd rfl (Or.inl rfl) (by decide))) sgs_nil))))))) (by exact (ss_cons (by exact ss_for PassesOwn.never rfl (by exact (si_seq (by exact se_op so_add (by exact se_lst (by exact (sa_cons (by exact sv_l 6) sa_nil))) (by exact sv_l 7)))) (by exact (sg_name (ws := [8]) (i := 8) sc_firsts_of.nd rfl (Or.inl rfl) (by decide))) (by exact (ss_one (by exact ss_if (by exact st_cmp (by exact so_notinE (hu65 hr)) (by exact se_ixE (hu65 hr) (by exact sv_l 1) (by exact sv_l 8)) (by exact sv_l 3) (by rfl)) (by exact (ss_cons (by exact ss_asg (by exact se_callB sc_lenE (by rfl) (by exact T.n_len) (by decide +kernel) (by exact (sa_cons (by exact sv_l 2) sa_nil))) (by exact (sg_subE (ws := []) (hu65 hr) (by exact sv_l 3) (by exact se_ixE (hu65 hr) (by exact sv_l 1) (by exact sv_l 8))))) (by exact (ss_one (by exact ss_expr (by exact (se_bm PySem.F.plainAttrs_list PySem.F.slot_list_append PySem.F.type_list_append sm_append (by exact sv_l 2) (by exact (sa_cons (by exact sv_l 8) sa_nil))))))))) (by exact ss_nil))))) (by exact (ss_one (by exact ss_aug (i := 4) sc_firsts_of.nd rfl (Or.inl rfl) (by exact se_int) ip_add)))))))) (by exact (ss_one (by exact ss_ret (by exact se_tup (by exact (sa_cons (by exact sv_l 2) (sa_cons (by exact sv_l 3) sa_nil))))))))))))
theorem ok_numbered (T : Top K mg) : FnG P w K mg base 1 T.f_numbered T.d_numbered ["keys"] (spF K (T.ct P w) m_numbered 1) := fn_sim T.F_numbered sc_numbered fun cdv A outer s H E hr hgd =>
  (ss_cons (by exact ss_set (i := 1) sc_numbered.nd rfl (Or.inl rfl) (by exact se_dnew)) (by exact (ss_cons (by exact ss_set (i := 2) sc_numbered.nd rfl (Or.inl rfl) (by exact se_lst (by exact sa_nil))) (by exact (ss_cons (by exact ss_for PassesOwn.never rfl (by exact (si_seq (by exact sv_l 0))) (by exact (sg_name (ws := [3]) (i := 3) sc_numbered.nd rfl (Or.inl rfl) (by decide))) (by exact (ss_cons (by exact ss_if (by exact st_cmp (by exact so_notinE (hu65 hr)) (by exact sv_l 3) (by exact sv_l 1) (by rfl)) (by exact (ss_one (by exact ss_asg (by exact se_callB sc_lenE (by rfl) (by exact T.n_len) (by decide +kernel) (by exact (sa_cons (by exact sv_l 1) sa_nil))) (by exact (sg_subE (ws := []) (hu65 hr) (by exact sv_l 1) (by exact sv_l 3)))))) (by exact ss_nil)) (by exact (ss_one (by exact ss_expr (by exact (se_bm PySem.F.plainAttrs_list PySem.F.slot_list_append PySem.F.type_list_append sm_append (by exact sv_l 2) (by exact (sa_cons (by exact se_ixE (hu65 hr) (by exact sv_l 1) (by exact sv_l 3)) sa_nil)))))))))) (by exact (ss_one (by exact ss_ret (by exact sv_l 2)))))))))
theorem ok_classes_of (T : Top K mg) : FnG P w K mg base 2 T.f_classes_of T.d_classes_of ["stages"] (spF K (T.ct P w) m_classes_of 1) := fn_sim T.F_classes_of sc_classes_of fun cdv A outer s H E hr hgd =>
  (ss_cons (by exact ss_set (i := 1) sc_classes_of.nd rfl (Or.inr rfl) (by exact se_call (ps := ["keys"]) (by exact ok_numbered T) (by exact hr.mono (by decide)) (by exact hgd) (by rfl) (by exact T.m_numbered) (by exact T.F_numbered.kp) (by exact T.b_numbered) (by exact (sa_cons (by exact se_comp (own := [("stage", 6), ("row", 5)]) rfl sc_classes_of.nd (by exact (si_zip rfl (by exact T.n_zip) (by exact se_fld (C := T.C_Stages) (by exact sv_l 0) rfl (by exact T.cl_Stages) (by exact T.na_Stages_order)) (by exact se_fld (C := T.C_Stages) (by exact sv_l 0) rfl (by exact T.cl_Stages) (by exact T.na_Stages_rows)))) (blkOk_by (N := ["stages", "found", "count", "keys", "own", "row", "stage", "goal"]) (sc := defScope s_classes_of) (own := [("stage", 6), ("row", 5)]) (by decide +kernel)) (fun _ _ _ _ _ => (by exact (sg_or2 (sg_tup rfl (sgs_cons (by exact (sg_name (ws := [6, 5]) (i := 6) sc_classes_of.nd rfl (Or.inl rfl) (by decide))) (sgs_cons (by exact (sg_name (ws := [6, 5]) (i := 5) sc_classes_of.nd rfl (Or.inl rfl) (by decide))) sgs_nil))) (sg_unl rfl (sgs_cons (by exact (sg_name (ws := [6, 5]) (i := 6) sc_classes_of.nd rfl (Or.inl rfl) (by decide))) (sgs_cons (by exact (sg_name (ws := [6, 5]) (i := 5) sc_classes_of.nd rfl (Or.inl rfl) (by decide))) sgs_nil)))))) (fun _ _ _ _ _ => sts_nil) (fun _ _ _ _ _ => (by exact se_tup (by exact (sa_cons (by exact se_callB sc_lenE (by rfl) (by exact T.n_len) (by decide +kernel) (by exact (sa_cons (by exact se_ixE (hu65 hr) (by exact sv_l 6) (by exact se_int)) sa_nil))) (sa_cons (by exact se_ixE (hu65 hr) (by exact sv_l 5) (by exact se_int)) sa_nil)))))) sa_nil)))) (by exact (ss_cons (by exact ss_set (i := 2) sc_classes_of.nd rfl (Or.inl rfl) (by exact se_int)) (by exact (ss_cons (by exact ss_while 1000000 PassesOwn.never (by exact st_cmp so_lt (by exact sv_l 2) (by exact se_callB sc_lenE (by rfl) (by exact T.n_len) (by decide +kernel) (by exact (sa_cons (by exact se_callTy (sc_set rfl) (by rfl) (by exact T.n_set) (by decide +kernel) (by exact (sa_cons (by exact sv_c 1) sa_nil))) sa_nil))) (nomark _)) (by exact (ss_cons (by exact ss_set (i := 2) sc_classes_of.nd rfl (Or.inl rfl) (by exact se_callB sc_lenE (by rfl) (by exact T.n_len) (by decide +kernel) (by exact (sa_cons (by exact se_callTy (sc_set rfl) (by rfl) (by exact T.n_set) (by decide +kernel) (by exact (sa_cons (by exact sv_c 1) sa_nil))) sa_nil)))) (by exact (ss_cons (by exact ss_set (i := 3) sc_classes_of.nd rfl (Or.inl rfl) (by exact se_lst (by exact sa_nil))) (by exact (ss_cons (by exact ss_for PassesOwn.never rfl (by exact (si_zip rfl (by exact T.n_zip) (by exact sv_c 1) (by exact se_fld (C := T.C_Stages) (by exact sv_l 0) rfl (by exact T.cl_Stages) (by exact T.na_Stages_rows)))) (by exact (sg_or2 (sg_tup rfl (sgs_cons (by exact (sg_name (ws := [4, 5]) (i := 4) sc_classes_of.nd rfl (Or.inl rfl) (by decide))) (sgs_cons (by exact (sg_name (ws := [4, 5]) (i := 5) sc_classes_of.nd rfl (Or.inl rfl) (by decide))) sgs_nil))) (sg_unl rfl (sgs_cons (by exact (sg_name (ws := [4, 5]) (i := 4) sc_classes_of.nd rfl (Or.inl rfl) (by decide))) (sgs_cons (by exact (sg_name (ws := [4, 5]) (i := 5) sc_classes_of.nd rfl (Or.inl rfl) (by decide))) sgs_nil))))) (by exact (ss_one (by exact ss_expr (by exact (se_bm PySem.F.plainAttrs_list PySem.F.slot_list_append PySem.F.type_list_append sm_append (by exact sv_l 3) (by exact (sa_cons (by exact se_tup (by exact (sa_cons (by exact sv_l 4) (sa_cons (by exact se_ixE (hu65 hr) (by exact sv_c 1) (by exact se_ixE (hu65 hr) (by exact sv_l 5) (by exact se_int))) (sa_cons (by exact se_callTy sc_tuple (by rfl) (by exact T.n_tuple) (by decide +kernel) (by exact (sa_cons (by exact se_comp (own := [("goal", 7)]) rfl sc_classes_of.nd (by exact (si_seq (by exact se_ixE (hu65 hr) (by exact sv_l 5) (by exact se_int)))) (blkOk_by (N := ["stages", "found", "count", "keys", "own", "row", "stage", "goal"]) (sc := defScope s_classes_of) (own := [("goal", 7)]) (by decide +kernel)) (fun _ _ _ _ _ => (by exact (sg_name (ws := [7]) (i := 7) sc_classes_of.nd rfl (Or.inl rfl) (by decide)))) (fun _ _ _ _ _ => sts_nil) (fun _ _ _ _ _ => (by exact se_ixE (hu65 hr) (by exact sv_f 1) (by exact sv_l 7)))) sa_nil))) sa_nil))))) sa_nil)))))))) (by exact (ss_one (by exact ss_set (i := 1) sc_classes_of.nd rfl (Or.inr rfl) (by exact se_call (ps := ["keys"]) (by exact ok_numbered T) (by exact hr.mono (by decide)) (by exact hgd) (by rfl) (by exact T.m_numbered) (by exact T.F_numbered.kp) (by exact T.b_numbered) (by exact (sa_cons (by exact sv_l 3) sa_nil))))))))))))) (by exact (ss_one (by exact ss_ret (by exact sv_c 1)))))))))
theorem ok_after_hits (T : Top K mg) : FnG P w K mg base 1 T.f_after_hits T.d_after_hits ["policy", "stage"] (spF K (T.ct P w) m_after_hits 2) := fn_sim T.F_after_hits sc_after_hits fun cdv A outer s H E hr hgd =>
  (ss_cons (by exact ss_asg (by exact sv_l 1) (by exact (sg_or2 (sg_tup rfl (sgs_cons (by exact (sg_name (ws := [2, 3]) (i := 2) sc_after_hits.nd rfl (Or.inl rfl) (by decide))) (sgs_cons (by exact (sg_name (ws := [2, 3]) (i := 3) sc_after_hits.nd rfl (Or.inr rfl) (by decide))) sgs_nil))) (sg_unl rfl (sgs_cons (by exact (sg_name (ws := [2, 3]) (i := 2) sc_after_hits.nd rfl (Or.inl rfl) (by decide))) (sgs_cons (by exact (sg_name (ws := [2, 3]) (i := 3) sc_after_hits.nd rfl (Or.inr rfl) (by decide))) sgs_nil)))))) (by exact (ss_cons (by exact ss_set (i := 4) sc_after_hits.nd rfl (Or.inr rfl) (by exact se_ixE (hu65 hr) (by exact se_ixE (hu65 hr) (by exact se_ixE (hu65 hr) (by exact sv_l 0) (by exact se_int)) (by exact sv_l 2)) (by exact se_int))) (by exact (ss_one (by exact ss_ret (by exact se_comp (own := [("line", 5)]) rfl sc_after_hits.nd (by exact (si_seq (by exact sv_c 3))) (blkOk_by (N := ["policy", "stage", "state", "filled", "hits", "line"]) (sc := defScope s_after_hits) (own := [("line", 5)]) (by decide +kernel)) (fun _ _ _ _ _ => (by exact (sg_name (ws := [5]) (i := 5) sc_after_hits.nd rfl (Or.inl rfl) (by decide)))) (fun _ _ _ _ _ => sts_nil) (fun _ _ _ _ _ => (by exact se_tup (by exact (sa_cons (by exact se_ixE (hu65 hr) (by exact sv_f 4) (by exact sv_l 5)) (sa_cons (by exact sv_f 3) sa_nil))))))))))))
theorem ok_Stages_place_of (T : Top K mg) : FnG P w K mg base 1 T.f_Stages_place_of T.d_Stages_place_of ["self", "stage"] (spF K (T.ct P w) m_Stages_place_of 2) := fn_sim T.F_Stages_place_of sc_Stages_place_of fun cdv A outer s H E hr hgd =>
  (ss_cons (by exact ss_if (by exact st_cmp (by exact so_notinE (hu65 hr)) (by exact sv_l 1) (by exact se_fld (C := T.C_Stages) (by exact sv_l 0) rfl (by exact T.cl_Stages) (by exact T.na_Stages_places)) (by rfl)) (by exact (ss_cons (by exact ss_asg (by exact se_callB sc_lenE (by rfl) (by exact T.n_len) (by decide +kernel) (by exact (sa_cons (by exact se_fld (C := T.C_Stages) (by exact sv_l 0) rfl (by exact T.cl_Stages) (by exact T.na_Stages_order)) sa_nil))) (by exact (sg_subE (ws := []) (hu65 hr) (by exact se_fld (C := T.C_Stages) (by exact sv_l 0) rfl (by exact T.cl_Stages) (by exact T.na_Stages_places)) (by exact sv_l 1)))) (by exact (ss_one (by exact ss_expr (by exact (se_bm PySem.F.plainAttrs_list PySem.F.slot_list_append PySem.F.type_list_append sm_append (by exact se_fld (C := T.C_Stages) (by exact sv_l 0) rfl (by exact T.cl_Stages) (by exact T.na_Stages_order)) (by exact (sa_cons (by exact sv_l 1) sa_nil))))))))) (by exact ss_nil)) (by exact (ss_one (by exact ss_ret (by exact se_ixE (hu65 hr) (by exact se_fld (C := T.C_Stages) (by exact sv_l 0) rfl (by exact T.cl_Stages) (by exact T.na_Stages_places)) (by exact sv_l 1))))))
theorem ok_after_miss (T : Top K mg) : FnG P w K mg base 1 T.f_after_miss T.d_after_miss ["policy", "stage"] (spF K (T.ct P w) m_after_miss 2) := fn_sim T.F_after_miss sc_after_miss fun cdv A outer s H E hr hgd =>
  (ss_cons (by exact ss_asg (by exact sv_l 1) (by exact (sg_or2 (sg_tup rfl (sgs_cons (by exact (sg_name (ws := [2, 3]) (i := 2) sc_after_miss.nd rfl (Or.inl rfl) (by decide))) (sgs_cons (by exact (sg_name (ws := [2, 3]) (i := 3) sc_after_miss.nd rfl (Or.inl rfl) (by decide))) sgs_nil))) (sg_unl rfl (sgs_cons (by exact (sg_name (ws := [2, 3]) (i := 2) sc_after_miss.nd rfl (Or.inl rfl) (by decide))) (sgs_cons (by exact (sg_name (ws := [2, 3]) (i := 3) sc_after_miss.nd rfl (Or.inl rfl) (by decide))) sgs_nil)))))) (by exact (ss_cons (by exact ss_asg (by exact se_ixE (hu65 hr) (by exact se_ixE (hu65 hr) (by exact sv_l 0) (by exact se_int)) (by exact sv_l 2)) (by exact (sg_or2 (sg_tup rfl (sgs_cons (by exact (sg_name (ws := [4, 5, 6]) (i := 4) sc_after_miss.nd rfl (Or.inl rfl) (by decide))) (sgs_cons (by exact (sg_name (ws := [4, 5, 6]) (i := 5) sc_after_miss.nd rfl (Or.inl rfl) (by decide))) (sgs_cons (by exact (sg_name (ws := [4, 5, 6]) (i := 6) sc_after_miss.nd rfl (Or.inl rfl) (by decide))) sgs_nil)))) (sg_unl rfl (sgs_cons (by exact (sg_name (ws := [4, 5, 6]) (i := 4) sc_after_miss.nd rfl (Or.inl rfl) (by decide))) (sgs_cons (by exact (sg_name (ws := [4, 5, 6]) (i := 5) sc_after_miss.nd rfl (Or.inl rfl) (by decide))) (sgs_cons (by exact (sg_name (ws := [4, 5, 6]) (i := 6) sc_after_miss.nd rfl (Or.inl rfl) (by decide))) sgs_nil))))))) (by exact (ss_cons (by exact ss_if (by exact st_cmp (by exact so_inE (hu65 hr)) (by exact sv_l 4) (by exact sv_l 3) (by rfl)) (by exact (ss_one (by exact ss_ret (by exact se_tup (by exact (sa_cons (by exact se_or2 (se_bm PySem.F.plainAttrs_list PySem.F.slot_list_index PySem.F.type_list_index (sm_index (hu65 hr)) (by exact sv_l 3) (by exact (sa_cons (by exact sv_l 4) sa_nil))) (se_bm PySem.F.plainAttrs_tuple PySem.F.slot_tuple_index PySem.F.type_tuple_index sm_tindex (by exact sv_l 3) (by exact (sa_cons (by exact sv_l 4) sa_nil)))) (sa_cons (by exact se_tup (by exact (sa_cons (by exact sv_l 5) (sa_cons (by exact sv_l 3) sa_nil)))) sa_nil))))))) (by exact ss_nil)) (by exact (ss_one (by exact ss_ret (by exact se_tup (by exact (sa_cons (by exact se_callB sc_lenE (by rfl) (by exact T.n_len) (by decide +kernel) (by exact (sa_cons (by exact sv_l 3) sa_nil))) (sa_cons (by exact se_tup (by exact (sa_cons (by exact sv_l 5) (sa_cons (by exact se_tup (by exact (sa_star (by exact sv_l 3) (sa_cons (by exact sv_l 4) sa_nil)))) sa_nil)))) sa_nil))))))))))))
theorem ok_Stages_init (T : Top K mg) : FnG P w K mg base 2 T.f_Stages_init T.d_Stages_init ["self", "policy"] (spF K (T.ct P w) m_Stages_init 2) := fn_sim T.F_Stages_init sc_Stages_init fun cdv A outer s H E hr hgd =>
  (ss_cons (by exact ss_fld (C := T.C_Stages) (by exact sv_c 0) (by exact se_lst (by exact (sa_cons (by exact se_tup (by exact (sa_cons (by exact se_int) (sa_cons (by exact se_tup (by exact sa_nil)) sa_nil)))) sa_nil))) rfl (by exact T.cl_Stages) (by exact T.na_Stages_order)) (by exact (ss_cons (by exact ss_fld (C := T.C_Stages) (by exact sv_c 0) (by exact se_dict1N (hu65 hr) (by exact se_tup (by exact (sa_cons (by exact se_int) (sa_cons (by exact se_tup (by exact sa_nil)) sa_nil)))) (by exact se_int)) rfl (by exact T.cl_Stages) (by exact T.na_Stages_places)) (by exact (ss_cons (by exact ss_fld (C := T.C_Stages) (by exact sv_c 0) (by exact se_lst (by exact sa_nil)) rfl (by exact T.cl_Stages) (by exact T.na_Stages_rows)) (by exact (ss_one (by exact ss_while 1000000 PassesOwn.never (by exact st_cmp so_lt (by exact se_callB sc_lenE (by rfl) (by exact T.n_len) (by decide +kernel) (by exact (sa_cons (by exact se_fld (C := T.C_Stages) (by exact sv_c 0) rfl (by exact T.cl_Stages) (by exact T.na_Stages_rows)) sa_nil))) (by exact se_callB sc_lenE (by rfl) (by exact T.n_len) (by decide +kernel) (by exact (sa_cons (by exact se_fld (C := T.C_Stages) (by exact sv_c 0) rfl (by exact T.cl_Stages) (by exact T.na_Stages_order)) sa_nil))) (nomark _)) (by exact (ss_cons (by exact ss_set (i := 2) sc_Stages_init.nd rfl (Or.inl rfl) (by exact se_ixE (hu65 hr) (by exact se_fld (C := T.C_Stages) (by exact sv_c 0) rfl (by exact T.cl_Stages) (by exact T.na_Stages_order)) (by exact se_callB sc_lenE (by rfl) (by exact T.n_len) (by decide +kernel) (by exact (sa_cons (by exact se_fld (C := T.C_Stages) (by exact sv_c 0) rfl (by exact T.cl_Stages) (by exact T.na_Stages_rows)) sa_nil))))) (by exact (ss_cons (by exact ss_asg (by exact se_call (ps := ["policy", "stage"]) (by exact ok_after_miss T) (by exact hr.mono (by decide)) (by exact hgd) (by rfl) (by exact T.m_after_miss) (by exact T.F_after_miss.kp) (by exact T.b_after_miss) (by exact (sa_cons (by exact sv_l 1) (sa_cons (by exact sv_l 2) sa_nil)))) (by exact (sg_or2 (sg_tup rfl (sgs_cons (by exact (sg_name (ws := [3, 4]) (i := 3) sc_Stages_init.nd rfl (Or.inl rfl) (by decide))) (sgs_cons (by exact (sg_name (ws := [3, 4]) (i := 4) sc_Stages_init.nd rfl (Or.inl rfl) (by decide))) sgs_nil))) (sg_unl rfl (sgs_cons (by exact (sg_name (ws := [3, 4]) (i := 3) sc_Stages_init.nd rfl (Or.inl rfl) (by decide))) (sgs_cons (by exact (sg_name (ws := [3, 4]) (i := 4) sc_Stages_init.nd rfl (Or.inl rfl) (by decide))) sgs_nil)))))) (by exact (ss_cons (by exact ss_set (i := 5) sc_Stages_init.nd rfl (Or.inl rfl) (by exact se_meth (ps := ["self", "stage"]) (C := T.C_Stages) (by exact sv_c 0) rfl (by exact T.cl_Stages) (by exact T.me_Stages_place_of) (by exact ok_Stages_place_of T) (by exact hr.mono (by decide)) (by exact hgd) (by exact T.b_Stages_place_of) (by exact (sa_cons (by exact sv_l 4) sa_nil)))) (by exact (ss_one (by exact ss_expr (by exact (se_bm PySem.F.plainAttrs_list PySem.F.slot_list_append PySem.F.type_list_append sm_append (by exact se_fld (C := T.C_Stages) (by exact sv_c 0) rfl (by exact T.cl_Stages) (by exact T.na_Stages_rows)) (by exact (sa_cons (by exact se_tup (by exact (sa_cons (by exact sv_l 3) (sa_cons (by exact sv_l 5) (sa_cons (by exact se_comp (own := [("goal", 6)]) rfl sc_Stages_init.nd (by exact (si_seq (by exact se_call (ps := ["policy", "stage"]) (by exact ok_after_hits T) (by exact hr.mono (by decide)) (by exact hgd) (by rfl) (by exact T.m_after_hits) (by exact T.F_after_hits.kp) (by exact T.b_after_hits) (by exact (sa_cons (by exact sv_l 1) (sa_cons (by exact sv_l 2) sa_nil)))))) (blkOk_by (N := ["self", "policy", "stage", "place", "behind", "after", "goal"]) (sc := defScope s_Stages_init) (own := [("goal", 6)]) (by decide +kernel)) (fun _ _ _ _ _ => (by exact (sg_name (ws := [6]) (i := 6) sc_Stages_init.nd rfl (Or.inl rfl) (by decide)))) (fun _ _ _ _ _ => sts_nil) (fun _ _ _ _ _ => (by exact se_meth (ps := ["self", "stage"]) (C := T.C_Stages) (by exact sv_f 0) rfl (by exact T.cl_Stages) (by exact T.me_Stages_place_of) (by exact ok_Stages_place_of T) (by exact hr.mono (by decide)) (by exact hgd) (by exact T.b_Stages_place_of) (by exact (sa_cons (by exact sv_l 6) sa_nil))))) sa_nil))))) sa_nil)))))))))))))))))))))
theorem ok_is_integer (T : Top K mg) : FnG P w K mg base 1 T.f_is_integer T.d_is_integer ["value"] (spF K (T.ct P w) m_is_integer 1) := fn_sim T.F_is_integer sc_is_integer fun cdv A outer s H E hr hgd =>
  (ss_one (by exact ss_ret (by exact (se_and (by exact se_callB sc_isi (by rfl) (by exact T.n_isinstance) (by decide +kernel) (by exact (sa_cons (by exact sv_l 0) (sa_cons (by exact se_ty (by rfl) (by exact T.n_int) (by decide +kernel)) sa_nil)))) (se_one (by exact se_not (by exact se_callB sc_isi (by rfl) (by exact T.n_isinstance) (by decide +kernel) (by exact (sa_cons (by exact sv_l 0) (sa_cons (by exact se_ty (by rfl) (by exact T.n_bool) (by decide +kernel)) sa_nil))))))))))
theorem ok_is_between (T : Top K mg) : FnG P w K mg base 2 T.f_is_between T.d_is_between ["value", "least", "greatest"] (spF K (T.ct P w) m_is_between 3) := fn_sim T.F_is_between sc_is_between fun cdv A outer s H E hr hgd =>
  (ss_one (by exact ss_ret (by exact (se_and (by exact se_call (ps := ["value"]) (by exact ok_is_integer T) (by exact hr.mono (by decide)) (by exact hgd) (by rfl) (by exact T.m_is_integer) (by exact T.F_is_integer.kp) (by exact T.b_is_integer) (by exact (sa_cons (by exact sv_l 0) sa_nil))) (se_one (by exact se_chain so_le so_le (by exact sv_l 1) (by exact sv_l 0) (by exact sv_l 2)))))))
theorem ok_is_row (T : Top K mg) : FnG P w K mg base 3 T.f_is_row T.d_is_row ["value", "lines", "states"] (spF K (T.ct P w) m_is_row 3) := fn_sim T.F_is_row sc_is_row fun cdv A outer s H E hr hgd =>
  (ss_cons (by exact ss_if (by exact SW.st (sw_or (by exact st_not (by exact st_truth (by exact se_callB sc_isi (by rfl) (by exact T.n_isinstance) (by decide +kernel) (by exact (sa_cons (by exact sv_l 0) (sa_cons (by exact se_ty (by rfl) (by exact T.n_tuple) (by decide +kernel)) sa_nil)))))) (sw_or (by exact st_cmp (by exact so_ne hr.units) (by exact se_callB sc_lenE (by rfl) (by exact T.n_len) (by decide +kernel) (by exact (sa_cons (by exact sv_l 0) sa_nil))) (by exact se_int) (nomark _)) (sw_or1 (by exact st_not (by exact st_truth (by exact se_call (ps := ["value", "least", "greatest"]) (by exact ok_is_between T) (by exact hr.mono (by decide)) (by exact hgd) (by rfl) (by exact T.m_is_between) (by exact T.F_is_between.kp) (by exact T.b_is_between) (by exact (sa_cons (by exact se_ixE (hu65 hr) (by exact sv_l 0) (by exact se_int)) (sa_cons (by exact se_int) (sa_cons (by exact se_op so_sub (by exact sv_l 1) (by exact se_int)) sa_nil))))))))))) (by exact (ss_one (by exact ss_ret (by exact se_bl)))) (by exact ss_nil)) (by exact (ss_cons (by exact ss_if (by exact SW.st (sw_or (by exact st_not (by exact st_truth (by exact se_call (ps := ["value", "least", "greatest"]) (by exact ok_is_between T) (by exact hr.mono (by decide)) (by exact hgd) (by rfl) (by exact T.m_is_between) (by exact T.F_is_between.kp) (by exact T.b_is_between) (by exact (sa_cons (by exact se_ixE (hu65 hr) (by exact sv_l 0) (by exact se_int)) (sa_cons (by exact se_int) (sa_cons (by exact se_op so_sub (by exact sv_c 2) (by exact se_int)) sa_nil))))))) (sw_or (by exact st_not (by exact st_truth (by exact se_callB sc_isi (by rfl) (by exact T.n_isinstance) (by decide +kernel) (by exact (sa_cons (by exact se_ixE (hu65 hr) (by exact sv_l 0) (by exact se_int)) (sa_cons (by exact se_ty (by rfl) (by exact T.n_tuple) (by decide +kernel)) sa_nil)))))) (sw_or1 (by exact st_cmp (by exact so_ne hr.units) (by exact se_callB sc_lenE (by rfl) (by exact T.n_len) (by decide +kernel) (by exact (sa_cons (by exact se_ixE (hu65 hr) (by exact sv_l 0) (by exact se_int)) sa_nil))) (by exact sv_l 1) (nomark _)))))) (by exact (ss_one (by exact ss_ret (by exact se_bl)))) (by exact ss_nil)) (by exact (ss_one (by exact ss_ret (by exact se_callB (sc_all rfl) (by rfl) (by exact T.n_all) (by decide +kernel) (by exact (sa_cons (by exact se_comp (own := [("state", 3)]) rfl sc_is_row.nd (by exact (si_seq (by exact se_ixE (hu65 hr) (by exact sv_l 0) (by exact se_int)))) (blkOk_by (N := ["value", "lines", "states", "state"]) (sc := defScope s_is_row) (own := [("state", 3)]) (by decide +kernel)) (fun _ _ _ _ _ => (by exact (sg_name (ws := [3]) (i := 3) sc_is_row.nd rfl (Or.inl rfl) (by decide)))) (fun _ _ _ _ _ => sts_nil) (fun _ _ _ _ _ => (by exact se_call (ps := ["value", "least", "greatest"]) (by exact ok_is_between T) (by exact hr.mono (by decide)) (by exact hgd) (by rfl) (by exact T.m_is_between) (by exact T.F_is_between.kp) (by exact T.b_is_between) (by exact (sa_cons (by exact sv_l 3) (sa_cons (by exact se_int) (sa_cons (by exact se_op so_sub (by exact sv_f 2) (by exact se_int)) sa_nil))))))) sa_nil)))))))))
theorem ok_is_policy (T : Top K mg) : FnG P w K mg base 4 T.f_is_policy T.d_is_policy ["value"] (spF K (T.ct P w) m_is_policy 1) := fn_sim T.F_is_policy sc_is_policy fun cdv A outer s H E hr hgd =>
  (ss_cons (by exact ss_if (by exact SW.st (sw_or (by exact st_not (by exact st_truth (by exact se_callB sc_isi (by rfl) (by exact T.n_isinstance) (by decide +kernel) (by exact (sa_cons (by exact sv_l 0) (sa_cons (by exact se_ty (by rfl) (by exact T.n_tuple) (by decide +kernel)) sa_nil)))))) (sw_or (by exact st_cmp (by exact so_ne hr.units) (by exact se_callB sc_lenE (by rfl) (by exact T.n_len) (by decide +kernel) (by exact (sa_cons (by exact sv_l 0) sa_nil))) (by exact se_int) (nomark _)) (sw_or1 (by exact st_not (by exact st_truth (by exact se_call (ps := ["value", "least", "greatest"]) (by exact ok_is_between T) (by exact hr.mono (by decide)) (by exact hgd) (by rfl) (by exact T.m_is_between) (by exact T.F_is_between.kp) (by exact T.b_is_between) (by exact (sa_cons (by exact se_ixE (hu65 hr) (by exact sv_l 0) (by exact se_int)) (sa_cons (by exact se_int) (sa_cons (by exact T.e_MOST_LINES rfl) sa_nil))))))))))) (by exact (ss_one (by exact ss_ret (by exact se_bl)))) (by exact ss_nil)) (by exact (ss_cons (by exact ss_asg (by exact sv_l 0) (by exact (sg_or2 (sg_tup rfl (sgs_cons (by exact (sg_name (ws := [1, 2]) (i := 1) sc_is_policy.nd rfl (Or.inr rfl) (by decide))) (sgs_cons (by exact (sg_name (ws := [1, 2]) (i := 2) sc_is_policy.nd rfl (Or.inr rfl) (by decide))) sgs_nil))) (sg_unl rfl (sgs_cons (by exact (sg_name (ws := [1, 2]) (i := 1) sc_is_policy.nd rfl (Or.inr rfl) (by decide))) (sgs_cons (by exact (sg_name (ws := [1, 2]) (i := 2) sc_is_policy.nd rfl (Or.inr rfl) (by decide))) sgs_nil)))))) (by exact (ss_cons (by exact ss_if (by exact SW.st (sw_or (by exact st_not (by exact st_truth (by exact se_callB sc_isi (by rfl) (by exact T.n_isinstance) (by decide +kernel) (by exact (sa_cons (by exact sv_c 2) (sa_cons (by exact se_ty (by rfl) (by exact T.n_tuple) (by decide +kernel)) sa_nil)))))) (sw_or1 (by exact st_not (by exact st_chain so_le so_le (by exact se_int) (by exact se_callB sc_lenE (by rfl) (by exact T.n_len) (by decide +kernel) (by exact (sa_cons (by exact sv_c 2) sa_nil))) (by exact T.e_MOST_STATES rfl)))))) (by exact (ss_one (by exact ss_ret (by exact se_bl)))) (by exact ss_nil)) (by exact (ss_one (by exact ss_ret (by exact se_callB (sc_all rfl) (by rfl) (by exact T.n_all) (by decide +kernel) (by exact (sa_cons (by exact se_comp (own := [("row", 3)]) rfl sc_is_policy.nd (by exact (si_seq (by exact sv_c 2))) (blkOk_by (N := ["value", "lines", "rows", "row"]) (sc := defScope s_is_policy) (own := [("row", 3)]) (by decide +kernel)) (fun _ _ _ _ _ => (by exact (sg_name (ws := [3]) (i := 3) sc_is_policy.nd rfl (Or.inl rfl) (by decide)))) (fun _ _ _ _ _ => sts_nil) (fun _ _ _ _ _ => (by exact se_call (ps := ["value", "lines", "states"]) (by exact ok_is_row T) (by exact hr.mono (by decide)) (by exact hgd) (by rfl) (by exact T.m_is_row) (by exact T.F_is_row.kp) (by exact T.b_is_row) (by exact (sa_cons (by exact sv_l 3) (sa_cons (by exact sv_f 1) (sa_cons (by exact se_callB sc_lenE (by rfl) (by exact T.n_len) (by decide +kernel) (by exact (sa_cons (by exact sv_f 2) sa_nil))) sa_nil))))))) sa_nil)))))))))))
theorem ok_check_policy (T : Top K mg) : FnG P w K mg base 5 T.f_check_policy T.d_check_policy ["policy"] (spF K (T.ct P w) m_check_policy 1) := fn_sim T.F_check_policy sc_check_policy fun cdv A outer s H E hr hgd =>
  (ss_one (by exact ss_if (by exact st_not (by exact st_truth (by exact se_call (ps := ["value"]) (by exact ok_is_policy T) (by exact hr.mono (by decide)) (by exact hgd) (by rfl) (by exact T.m_is_policy) (by exact T.F_is_policy.kp) (by exact T.b_is_policy) (by exact (sa_cons (by exact sv_l 0) sa_nil))))) (by exact (ss_one (by exact ss_never))) (by exact ss_nil)))
theorem ok_plain (T : Top K mg) : FnG P w K mg base 6 T.f_plain T.d_plain ["policy"] (spF K (T.ct P w) m_plain 1) := fn_sim T.F_plain sc_plain fun cdv A outer s H E hr hgd =>
  (ss_cons (by exact ss_expr (by exact se_call (ps := ["policy"]) (by exact ok_check_policy T) (by exact hr.mono (by decide)) (by exact hgd) (by rfl) (by exact T.m_check_policy) (by exact T.F_check_policy.kp) (by exact T.b_check_policy) (by exact (sa_cons (by exact sv_l 0) sa_nil)))) (by exact (ss_cons (by exact ss_set (i := 1) sc_plain.nd rfl (Or.inl rfl) (by exact se_make (ps := ["self", "policy"]) (by exact T.mk_Stages) rfl (by exact ok_Stages_init T) (by exact hr.mono (by decide)) (by exact hgd) (by rfl) (by exact T.mC_Stages) (by exact T.b_Stages_init) (by exact (sa_cons (by exact sv_l 0) sa_nil)))) (by exact (ss_cons (by exact ss_set (i := 2) sc_plain.nd rfl (Or.inr rfl) (by exact se_call (ps := ["stages"]) (by exact ok_classes_of T) (by exact hr.mono (by decide)) (by exact hgd) (by rfl) (by exact T.m_classes_of) (by exact T.F_classes_of.kp) (by exact T.b_classes_of) (by exact (sa_cons (by exact sv_l 1) sa_nil)))) (by exact (ss_cons (by exact ss_asg (by exact se_call (ps := ["stages", "classes"]) (by exact ok_firsts_of T) (by exact hr.mono (by decide)) (by exact hgd) (by rfl) (by exact T.m_firsts_of) (by exact T.F_firsts_of.kp) (by exact T.b_firsts_of) (by exact (sa_cons (by exact sv_l 1) (sa_cons (by exact sv_c 2) sa_nil)))) (by exact (sg_or2 (sg_tup rfl (sgs_cons (by exact (sg_name (ws := [3, 4]) (i := 3) sc_plain.nd rfl (Or.inl rfl) (by decide))) (sgs_cons (by exact (sg_name (ws := [3, 4]) (i := 4) sc_plain.nd rfl (Or.inr rfl) (by decide))) sgs_nil))) (sg_unl rfl (sgs_cons (by exact (sg_name (ws := [3, 4]) (i := 3) sc_plain.nd rfl (Or.inl rfl) (by decide))) (sgs_cons (by exact (sg_name (ws := [3, 4]) (i := 4) sc_plain.nd rfl (Or.inr rfl) (by decide))) sgs_nil)))))) (by exact (ss_cons (by exact ss_if (by exact st_cmp so_gt (by exact se_callB sc_lenE (by rfl) (by exact T.n_len) (by decide +kernel) (by exact (sa_cons (by exact sv_l 3) sa_nil))) (by exact T.e_MOST_STATES rfl) (nomark _)) (by exact (ss_one (by exact ss_never))) (by exact ss_nil)) (by exact (ss_cons (by exact ss_set (i := 5) sc_plain.nd rfl (Or.inl rfl) (by exact se_callB (sc_max rfl) (by rfl) (by exact T.n_max) (by decide +kernel) (by exact (sa_cons (by exact se_comp (own := [("state", 13), ("filled", 14)]) rfl sc_plain.nd (by exact (si_seq (by exact se_fld (C := T.C_Stages) (by exact sv_l 1) rfl (by exact T.cl_Stages) (by exact T.na_Stages_order)))) (blkOk_by (N := ["policy", "stages", "classes", "order", "known", "lines", "rows", "number", "index", "place", "after", "hits", "goals", "state", "filled", "goal"]) (sc := defScope s_plain) (own := [("state", 13), ("filled", 14)]) (by decide +kernel)) (fun _ _ _ _ _ => (by exact (sg_or2 (sg_tup rfl (sgs_cons (by exact (sg_name (ws := [13, 14]) (i := 13) sc_plain.nd rfl (Or.inl rfl) (by decide))) (sgs_cons (by exact (sg_name (ws := [13, 14]) (i := 14) sc_plain.nd rfl (Or.inl rfl) (by decide))) sgs_nil))) (sg_unl rfl (sgs_cons (by exact (sg_name (ws := [13, 14]) (i := 13) sc_plain.nd rfl (Or.inl rfl) (by decide))) (sgs_cons (by exact (sg_name (ws := [13, 14]) (i := 14) sc_plain.nd rfl (Or.inl rfl) (by decide))) sgs_nil)))))) (fun _ _ _ _ _ => sts_nil) (fun _ _ _ _ _ => (by exact se_callB sc_lenE (by rfl) (by exact T.n_len) (by decide +kernel) (by exact (sa_cons (by exact sv_l 14) sa_nil))))) sa_nil)))) (by exact (ss_cons (by exact ss_set (i := 6) sc_plain.nd rfl (Or.inl rfl) (by exact se_lst (by exact sa_nil))) (by exact (ss_cons (by exact ss_for PassesOwn.never rfl (by exact (si_enum rfl (by exact T.n_enumerate) (by exact sv_l 3))) (by exact (sg_or2 (sg_tup rfl (sgs_cons (by exact (sg_name (ws := [7, 8]) (i := 7) sc_plain.nd rfl (Or.inl rfl) (by decide))) (sgs_cons (by exact (sg_name (ws := [7, 8]) (i := 8) sc_plain.nd rfl (Or.inl rfl) (by decide))) sgs_nil))) (sg_unl rfl (sgs_cons (by exact (sg_name (ws := [7, 8]) (i := 7) sc_plain.nd rfl (Or.inl rfl) (by decide))) (sgs_cons (by exact (sg_name (ws := [7, 8]) (i := 8) sc_plain.nd rfl (Or.inl rfl) (by decide))) sgs_nil))))) (by exact (ss_cons (by exact ss_asg (by exact se_ixE (hu65 hr) (by exact se_fld (C := T.C_Stages) (by exact sv_l 1) rfl (by exact T.cl_Stages) (by exact T.na_Stages_rows)) (by exact sv_l 8)) (by exact (sg_or2 (sg_tup rfl (sgs_cons (by exact (sg_name (ws := [9, 10, 11]) (i := 9) sc_plain.nd rfl (Or.inl rfl) (by decide))) (sgs_cons (by exact (sg_name (ws := [9, 10, 11]) (i := 10) sc_plain.nd rfl (Or.inl rfl) (by decide))) (sgs_cons (by exact (sg_name (ws := [9, 10, 11]) (i := 11) sc_plain.nd rfl (Or.inl rfl) (by decide))) sgs_nil)))) (sg_unl rfl (sgs_cons (by exact (sg_name (ws := [9, 10, 11]) (i := 9) sc_plain.nd rfl (Or.inl rfl) (by decide))) (sgs_cons (by exact (sg_name (ws := [9, 10, 11]) (i := 10) sc_plain.nd rfl (Or.inl rfl) (by decide))) (sgs_cons (by exact (sg_name (ws := [9, 10, 11]) (i := 11) sc_plain.nd rfl (Or.inl rfl) (by decide))) sgs_nil))))))) (by exact (ss_cons (by exact ss_setLc (i := 12) (own := [("goal", 15)]) rfl sc_plain.nd rfl rfl (sw_true rfl rfl rfl (by decide +kernel)) (by exact (si_seq (by exact sv_l 11))) (blkOk_by (N := ["policy", "stages", "classes", "order", "known", "lines", "rows", "number", "index", "place", "after", "hits", "goals", "state", "filled", "goal"]) (sc := defScope s_plain) (own := [("goal", 15)]) (by decide +kernel)) (fun _ _ _ _ _ => (by exact (sg_name (ws := [15]) (i := 15) sc_plain.nd rfl (Or.inl rfl) (by decide)))) (fun _ _ _ _ _ => sts_nil) (fun _ _ _ _ _ => (by exact se_ixE (hu65 hr) (by exact sv_f 4) (by exact se_ixE (hu65 hr) (by exact sv_f 2) (by exact sv_l 15))))) (by exact (ss_one (by exact ss_expr (by exact (se_bm PySem.F.plainAttrs_list PySem.F.slot_list_append PySem.F.type_list_append sm_append (by exact sv_l 6) (by exact (sa_cons (by exact se_tup (by exact (sa_cons (by exact sv_l 9) (sa_cons (by exact se_ixE (hu65 hr) (by exact sv_c 4) (by exact se_ixE (hu65 hr) (by exact sv_c 2) (by exact sv_l 10))) (sa_cons (by exact se_callTy sc_tuple (by rfl) (by exact T.n_tuple) (by decide +kernel) (by exact (sa_cons (by exact se_op so_add (by exact sv_l 12) (by exact se_op so_mul (by exact se_lst (by exact (sa_cons (by exact sv_l 7) sa_nil))) (by exact se_op so_sub (by exact sv_l 5) (by exact se_callB sc_lenE (by rfl) (by exact T.n_len) (by decide +kernel) (by exact (sa_cons (by exact sv_l 12) sa_nil)))))) sa_nil))) sa_nil))))) sa_nil)))))))))))) (by exact (ss_one (by exact ss_ret (by exact se_tup (by exact (sa_cons (by exact sv_l 5) (sa_cons (by exact se_callTy sc_tuple (by rfl) (by exact T.n_tuple) (by decide +kernel) (by exact (sa_cons (by exact sv_l 6) sa_nil))) sa_nil))))))))))))))))))))))
theorem ok__law_draw (T : Top K mg) : FnG P w K mg base 1 T.f__law_draw T.d__law_draw ["_law_pool_here", "_law_most"] (spF K (T.ct P w) m__law_draw 2) := fn_sim T.F__law_draw sc__law_draw fun cdv A outer s H E hr hgd =>
  (ss_cons (by exact ss_asg (by exact se_op so_add (by exact se_ixE (hu65 hr) (by exact sv_l 0) (by exact se_int)) (by exact se_int)) (by exact (sg_subE (ws := []) (hu65 hr) (by exact sv_l 0) (by exact se_int)))) (by exact (ss_cons (by exact ss_set (i := 2) sc__law_draw.nd rfl (Or.inl rfl) (by exact se_callTy sc_int (by rfl) (by exact T.n_int) (by decide +kernel) (by exact (sa_cons (by exact se_ixE (hu65 hr) (by exact sv_l 0) (by exact se_int)) sa_nil)))) (by exact (ss_cons (by exact ss_asg (by exact se_op so_mod (by exact se_op so_add (by exact se_op so_mul (by exact sv_l 2) (by exact se_op so_add (by exact se_op so_mod (by exact sv_l 2) (by exact se_int)) (by exact se_int))) (by exact se_op so_mul (by exact se_int) (by exact se_ixE (hu65 hr) (by exact sv_l 0) (by exact se_int)))) (by exact se_int)) (by exact (sg_subE (ws := []) (hu65 hr) (by exact sv_l 0) (by exact se_int)))) (by exact (ss_cons (by exact ss_if (by exact st_cmp so_gt (by exact se_ixE (hu65 hr) (by exact sv_l 0) (by exact se_int)) (by exact se_int) (nomark _)) (by exact (ss_cons (by exact ss_asg (by exact se_callB sc_divmod (by rfl) (by exact T.n_divmod) (by decide +kernel) (by exact (sa_cons (by exact se_ixE (hu65 hr) (by exact sv_l 0) (by exact se_int)) (sa_cons (by exact sv_l 1) sa_nil)))) (by exact (sg_or2 (sg_tup rfl (sgs_cons (by exact (sg_subE (ws := [3]) (hu65 hr) (by exact sv_l 0) (by exact se_int))) (sgs_cons (by exact (sg_name (ws := [3]) (i := 3) sc__law_draw.nd rfl (Or.inl rfl) (by decide))) sgs_nil))) (sg_unl rfl (sgs_cons (by exact (sg_subE (ws := [3]) (hu65 hr) (by exact sv_l 0) (by exact se_int))) (sgs_cons (by exact (sg_name (ws := [3]) (i := 3) sc__law_draw.nd rfl (Or.inl rfl) (by decide))) sgs_nil)))))) (by exact (ss_one (by exact ss_ret (by exact sv_l 3)))))) (by exact ss_nil)) (by exact (ss_one (by exact ss_ret (by exact se_op so_mod (by exact se_op so_fdiv (by exact se_ixE (hu65 hr) (by exact sv_l 0) (by exact se_int)) (by exact se_int)) (by exact sv_l 1))))))))))))
theorem ok__law_first (T : Top K mg) : FnG P w K mg base 1 T.f__law_first T.d__law_first [] (spF K (T.ct P w) m__law_first 0) := fn_sim T.F__law_first sc__law_first fun cdv A outer s H E hr hgd =>
  (ss_cons (by exact ss_set (i := 0) sc__law_first.nd rfl (Or.inl rfl) (by exact se_tup (by exact (sa_cons (by exact se_int) (sa_cons (by exact se_tup (by exact (sa_cons (by exact se_tup (by exact (sa_cons (by exact se_int) (sa_cons (by exact se_int) (sa_cons (by exact se_tup (by exact (sa_cons (by exact se_int) (sa_cons (by exact se_int) sa_nil)))) sa_nil))))) (sa_cons (by exact se_tup (by exact (sa_cons (by exact se_int) (sa_cons (by exact se_int) (sa_cons (by exact se_tup (by exact (sa_cons (by exact se_int) (sa_cons (by exact se_int) sa_nil)))) sa_nil))))) (sa_cons (by exact se_tup (by exact (sa_cons (by exact se_int) (sa_cons (by exact se_int) (sa_cons (by exact se_tup (by exact (sa_cons (by exact se_int) (sa_cons (by exact se_int) sa_nil)))) sa_nil))))) (sa_cons (by exact se_tup (by exact (sa_cons (by exact se_int) (sa_cons (by exact se_int) (sa_cons (by exact se_tup (by exact (sa_cons (by exact se_int) (sa_cons (by exact se_int) sa_nil)))) sa_nil))))) sa_nil)))))) sa_nil))))) (by exact (ss_cons (by exact ss_set (i := 1) sc__law_first.nd rfl (Or.inl rfl) (by exact se_tup (by exact (sa_cons (by exact se_int) (sa_cons (by exact se_tup (by exact (sa_cons (by exact se_tup (by exact (sa_cons (by exact se_int) (sa_cons (by exact se_int) (sa_cons (by exact se_tup (by exact (sa_cons (by exact se_int) sa_nil))) sa_nil))))) (sa_cons (by exact se_tup (by exact (sa_cons (by exact se_int) (sa_cons (by exact se_int) (sa_cons (by exact se_tup (by exact (sa_cons (by exact se_int) sa_nil))) sa_nil))))) sa_nil)))) sa_nil))))) (by exact (ss_cons (by exact ss_set (i := 2) sc__law_first.nd rfl (Or.inl rfl) (by exact se_lst (by exact (sa_cons (by exact se_tup (by exact (sa_cons (by exact se_tup (by exact (sa_cons (by exact se_int) (sa_cons (by exact se_tup (by exact (sa_cons (by exact se_tup (by exact (sa_cons (by exact se_int) (sa_cons (by exact se_int) (sa_cons (by exact se_tup (by exact (sa_cons (by exact se_int) (sa_cons (by exact se_int) sa_nil)))) sa_nil))))) (sa_cons (by exact se_tup (by exact (sa_cons (by exact se_int) (sa_cons (by exact se_int) (sa_cons (by exact se_tup (by exact (sa_cons (by exact se_int) (sa_cons (by exact se_int) sa_nil)))) sa_nil))))) sa_nil)))) sa_nil)))) (sa_cons (by exact sv_l 0) sa_nil)))) (sa_cons (by exact se_tup (by exact (sa_cons (by exact se_tup (by exact (sa_cons (by exact se_int) (sa_cons (by exact se_tup (by exact (sa_cons (by exact se_tup (by exact (sa_cons (by exact se_int) (sa_cons (by exact se_int) (sa_cons (by exact se_tup (by exact (sa_cons (by exact se_int) (sa_cons (by exact se_int) sa_nil)))) sa_nil))))) (sa_cons (by exact se_tup (by exact (sa_cons (by exact se_int) (sa_cons (by exact se_int) (sa_cons (by exact se_tup (by exact (sa_cons (by exact se_int) (sa_cons (by exact se_int) sa_nil)))) sa_nil))))) sa_nil)))) sa_nil)))) (sa_cons (by exact sv_l 0) sa_nil)))) sa_nil))))) (by exact (ss_cons (by exact ss_expr (by exact (se_bm PySem.F.plainAttrs_list PySem.F.slot_list_append PySem.F.type_list_append sm_append (by exact sv_l 2) (by exact (sa_cons (by exact se_tup (by exact (sa_cons (by exact se_tup (by exact (sa_cons (by exact se_int) (sa_cons (by exact se_tup (by exact (sa_cons (by exact se_tup (by exact (sa_cons (by exact se_int) (sa_cons (by exact se_int) (sa_cons (by exact se_tup (by exact (sa_cons (by exact se_int) (sa_cons (by exact se_int) (sa_cons (by exact se_int) sa_nil))))) sa_nil))))) (sa_cons (by exact se_tup (by exact (sa_cons (by exact se_int) (sa_cons (by exact se_int) (sa_cons (by exact se_tup (by exact (sa_cons (by exact se_int) (sa_cons (by exact se_int) (sa_cons (by exact se_int) sa_nil))))) sa_nil))))) sa_nil)))) sa_nil)))) (sa_cons (by exact sv_l 0) sa_nil)))) sa_nil))))) (by exact (ss_cons (by exact ss_expr (by exact (se_bm PySem.F.plainAttrs_list PySem.F.slot_list_append PySem.F.type_list_append sm_append (by exact sv_l 2) (by exact (sa_cons (by exact se_tup (by exact (sa_cons (by exact se_tup (by exact (sa_cons (by exact se_int) (sa_cons (by exact se_tup (by exact (sa_cons (by exact se_tup (by exact (sa_cons (by exact se_int) (sa_cons (by exact se_int) (sa_cons (by exact se_tup (by exact (sa_cons (by exact se_int) (sa_cons (by exact se_int) sa_nil)))) sa_nil))))) (sa_cons (by exact se_tup (by exact (sa_cons (by exact se_int) (sa_cons (by exact se_int) (sa_cons (by exact se_tup (by exact (sa_cons (by exact se_int) (sa_cons (by exact se_int) sa_nil)))) sa_nil))))) (sa_cons (by exact se_tup (by exact (sa_cons (by exact se_int) (sa_cons (by exact se_int) (sa_cons (by exact se_tup (by exact (sa_cons (by exact se_int) (sa_cons (by exact se_int) sa_nil)))) sa_nil))))) sa_nil))))) sa_nil)))) (sa_cons (by exact sv_l 0) sa_nil)))) sa_nil))))) (by exact (ss_cons (by exact ss_expr (by exact (se_bm PySem.F.plainAttrs_list PySem.F.slot_list_append PySem.F.type_list_append sm_append (by exact sv_l 2) (by exact (sa_cons (by exact se_tup (by exact (sa_cons (by exact se_tup (by exact (sa_cons (by exact se_int) (sa_cons (by exact se_tup (by exact (sa_cons (by exact se_tup (by exact (sa_cons (by exact se_int) (sa_cons (by exact se_int) (sa_cons (by exact se_tup (by exact (sa_cons (by exact se_int) (sa_cons (by exact se_int) sa_nil)))) sa_nil))))) (sa_cons (by exact se_tup (by exact (sa_cons (by exact se_int) (sa_cons (by exact se_int) (sa_cons (by exact se_tup (by exact (sa_cons (by exact se_int) (sa_cons (by exact se_int) sa_nil)))) sa_nil))))) (sa_cons (by exact se_tup (by exact (sa_cons (by exact se_int) (sa_cons (by exact se_int) (sa_cons (by exact se_tup (by exact (sa_cons (by exact se_int) (sa_cons (by exact se_int) sa_nil)))) sa_nil))))) sa_nil))))) sa_nil)))) (sa_cons (by exact sv_l 0) sa_nil)))) sa_nil))))) (by exact (ss_cons (by exact ss_set (i := 2) sc__law_first.nd rfl (Or.inl rfl) (by exact se_op so_add (by exact sv_l 2) (by exact se_lst (by exact (sa_cons (by exact se_tup (by exact (sa_cons (by exact se_tup (by exact (sa_cons (by exact se_int) (sa_cons (by exact se_tup (by exact (sa_cons (by exact se_tup (by exact (sa_cons (by exact se_int) (sa_cons (by exact se_int) (sa_cons (by exact se_tup (by exact (sa_cons (by exact se_int) sa_nil))) sa_nil))))) sa_nil))) sa_nil)))) (sa_cons (by exact sv_l 1) sa_nil)))) (sa_cons (by exact se_tup (by exact (sa_cons (by exact se_tup (by exact (sa_cons (by exact se_int) (sa_cons (by exact se_tup (by exact (sa_cons (by exact se_tup (by exact (sa_cons (by exact se_int) (sa_cons (by exact se_int) (sa_cons (by exact se_tup (by exact (sa_cons (by exact se_int) sa_nil))) sa_nil))))) (sa_cons (by exact se_tup (by exact (sa_cons (by exact se_int) (sa_cons (by exact se_int) (sa_cons (by exact se_tup (by exact (sa_cons (by exact se_int) sa_nil))) sa_nil))))) sa_nil)))) sa_nil)))) (sa_cons (by exact sv_l 1) sa_nil)))) sa_nil)))))) (by exact (ss_one (by exact ss_ret (by exact se_op so_add (by exact sv_l 2) (by exact se_lst (by exact (sa_cons (by exact se_tup (by exact (sa_cons (by exact se_tup (by exact (sa_cons (by exact se_int) (sa_cons (by exact se_tup (by exact (sa_cons (by exact se_tup (by exact (sa_cons (by exact se_int) (sa_cons (by exact se_int) (sa_cons (by exact se_tup (by exact (sa_cons (by exact se_int) (sa_cons (by exact se_int) sa_nil)))) sa_nil))))) sa_nil))) sa_nil)))) (sa_cons (by exact sv_l 1) sa_nil)))) (sa_cons (by exact se_tup (by exact (sa_cons (by exact se_tup (by exact (sa_cons (by exact se_int) (sa_cons (by exact se_tup (by exact (sa_cons (by exact se_tup (by exact (sa_cons (by exact se_int) (sa_cons (by exact se_int) (sa_cons (by exact se_tup (by exact (sa_cons (by exact se_int) (sa_cons (by exact se_int) (sa_cons (by exact se_int) (sa_cons (by exact se_int) sa_nil)))))) sa_nil))))) (sa_cons (by exact se_tup (by exact (sa_cons (by exact se_int) (sa_cons (by exact se_int) (sa_cons (by exact se_tup (by exact (sa_cons (by exact se_int) (sa_cons (by exact se_int) (sa_cons (by exact se_int) (sa_cons (by exact se_int) sa_nil)))))) sa_nil))))) sa_nil)))) sa_nil)))) (sa_cons (by exact sv_l 1) sa_nil)))) sa_nil)))))))))))))))))))))
theorem ok__law_second (T : Top K mg) : FnG P w K mg base 1 T.f__law_second T.d__law_second [] (spF K (T.ct P w) m__law_second 0) := fn_sim T.F__law_second sc__law_second fun cdv A outer s H E hr hgd =>
  (ss_cons (by exact ss_set (i := 0) sc__law_second.nd rfl (Or.inl rfl) (by exact se_tup (by exact (sa_cons (by exact se_int) (sa_cons (by exact se_tup (by exact (sa_cons (by exact se_tup (by exact (sa_cons (by exact se_int) (sa_cons (by exact se_int) (sa_cons (by exact se_tup (by exact (sa_cons (by exact se_int) (sa_cons (by exact se_int) sa_nil)))) sa_nil))))) (sa_cons (by exact se_tup (by exact (sa_cons (by exact se_int) (sa_cons (by exact se_int) (sa_cons (by exact se_tup (by exact (sa_cons (by exact se_int) (sa_cons (by exact se_int) sa_nil)))) sa_nil))))) (sa_cons (by exact se_tup (by exact (sa_cons (by exact se_int) (sa_cons (by exact se_int) (sa_cons (by exact se_tup (by exact (sa_cons (by exact se_int) (sa_cons (by exact se_int) sa_nil)))) sa_nil))))) (sa_cons (by exact se_tup (by exact (sa_cons (by exact se_int) (sa_cons (by exact se_int) (sa_cons (by exact se_tup (by exact (sa_cons (by exact se_int) (sa_cons (by exact se_int) sa_nil)))) sa_nil))))) sa_nil)))))) sa_nil))))) (by exact (ss_cons (by exact ss_set (i := 1) sc__law_second.nd rfl (Or.inl rfl) (by exact se_lst (by exact (sa_cons (by exact se_tup (by exact (sa_cons (by exact se_tup (by exact (sa_cons (by exact se_int) (sa_cons (by exact se_tup (by exact (sa_cons (by exact se_tup (by exact (sa_cons (by exact se_int) (sa_cons (by exact se_int) (sa_cons (by exact se_tup (by exact (sa_cons (by exact se_int) (sa_cons (by exact se_int) sa_nil)))) sa_nil))))) (sa_cons (by exact se_tup (by exact (sa_cons (by exact se_int) (sa_cons (by exact se_int) (sa_cons (by exact se_tup (by exact (sa_cons (by exact se_int) (sa_cons (by exact se_int) sa_nil)))) sa_nil))))) sa_nil)))) sa_nil)))) (sa_cons (by exact sv_l 0) sa_nil)))) (sa_cons (by exact se_tup (by exact (sa_cons (by exact se_tup (by exact (sa_cons (by exact se_int) (sa_cons (by exact se_tup (by exact (sa_cons (by exact se_tup (by exact (sa_cons (by exact se_int) (sa_cons (by exact se_int) (sa_cons (by exact se_tup (by exact (sa_cons (by exact se_int) (sa_cons (by exact se_int) sa_nil)))) sa_nil))))) (sa_cons (by exact se_tup (by exact (sa_cons (by exact se_int) (sa_cons (by exact se_int) (sa_cons (by exact se_tup (by exact (sa_cons (by exact se_int) (sa_cons (by exact se_int) sa_nil)))) sa_nil))))) sa_nil)))) sa_nil)))) (sa_cons (by exact sv_l 0) sa_nil)))) sa_nil))))) (by exact (ss_cons (by exact ss_set (i := 2) sc__law_second.nd rfl (Or.inl rfl) (by exact se_tup (by exact (sa_cons (by exact se_int) (sa_cons (by exact se_tup (by exact (sa_cons (by exact se_tup (by exact (sa_cons (by exact se_int) (sa_cons (by exact se_int) (sa_cons (by exact se_tup (by exact (sa_cons (by exact se_int) (sa_cons (by exact se_int) sa_nil)))) sa_nil))))) (sa_cons (by exact se_tup (by exact (sa_cons (by exact se_int) (sa_cons (by exact se_int) (sa_cons (by exact se_tup (by exact (sa_cons (by exact se_int) (sa_cons (by exact se_int) sa_nil)))) sa_nil))))) (sa_cons (by exact se_tup (by exact (sa_cons (by exact se_int) (sa_cons (by exact se_int) (sa_cons (by exact se_tup (by exact (sa_cons (by exact se_int) (sa_cons (by exact se_int) sa_nil)))) sa_nil))))) (sa_cons (by exact se_tup (by exact (sa_cons (by exact se_int) (sa_cons (by exact se_int) (sa_cons (by exact se_tup (by exact (sa_cons (by exact se_int) (sa_cons (by exact se_int) sa_nil)))) sa_nil))))) sa_nil)))))) sa_nil))))) (by exact (ss_cons (by exact ss_set (i := 1) sc__law_second.nd rfl (Or.inl rfl) (by exact se_op so_add (by exact sv_l 1) (by exact se_lst (by exact (sa_cons (by exact se_tup (by exact (sa_cons (by exact sv_l 2) (sa_cons (by exact sv_l 2) sa_nil)))) (sa_cons (by exact se_op so_mul (by exact se_tup (by exact (sa_cons (by exact se_tup (by exact (sa_cons (by exact se_int) (sa_cons (by exact se_tup (by exact (sa_cons (by exact se_tup (by exact (sa_cons (by exact se_int) (sa_cons (by exact se_int) (sa_cons (by exact se_tup (by exact (sa_cons (by exact se_int) (sa_cons (by exact se_int) sa_nil)))) sa_nil))))) (sa_cons (by exact se_tup (by exact (sa_cons (by exact se_int) (sa_cons (by exact se_int) (sa_cons (by exact se_tup (by exact (sa_cons (by exact se_int) (sa_cons (by exact se_int) sa_nil)))) sa_nil))))) (sa_cons (by exact se_tup (by exact (sa_cons (by exact se_int) (sa_cons (by exact se_int) (sa_cons (by exact se_tup (by exact (sa_cons (by exact se_int) (sa_cons (by exact se_int) sa_nil)))) sa_nil))))) sa_nil))))) sa_nil)))) sa_nil))) (by exact se_int)) sa_nil)))))) (by exact (ss_cons (by exact ss_set (i := 3) sc__law_second.nd rfl (Or.inl rfl) (by exact se_tup (by exact (sa_cons (by exact se_int) (sa_cons (by exact se_tup (by exact (sa_cons (by exact se_tup (by exact (sa_cons (by exact se_int) (sa_cons (by exact se_int) (sa_cons (by exact se_tup (by exact (sa_cons (by exact se_int) (sa_cons (by exact se_int) sa_nil)))) sa_nil))))) (sa_cons (by exact se_tup (by exact (sa_cons (by exact se_int) (sa_cons (by exact se_int) (sa_cons (by exact se_tup (by exact (sa_cons (by exact se_int) (sa_cons (by exact se_int) sa_nil)))) sa_nil))))) (sa_cons (by exact se_tup (by exact (sa_cons (by exact se_int) (sa_cons (by exact se_int) (sa_cons (by exact se_tup (by exact (sa_cons (by exact se_int) (sa_cons (by exact se_int) sa_nil)))) sa_nil))))) (sa_cons (by exact se_tup (by exact (sa_cons (by exact se_int) (sa_cons (by exact se_int) (sa_cons (by exact se_tup (by exact (sa_cons (by exact se_int) (sa_cons (by exact se_int) sa_nil)))) sa_nil))))) (sa_cons (by exact se_tup (by exact (sa_cons (by exact se_int) (sa_cons (by exact se_int) (sa_cons (by exact se_tup (by exact (sa_cons (by exact se_int) (sa_cons (by exact se_int) sa_nil)))) sa_nil))))) sa_nil))))))) sa_nil))))) (by exact (ss_cons (by exact ss_expr (by exact (se_bm PySem.F.plainAttrs_list PySem.F.slot_list_append PySem.F.type_list_append sm_append (by exact sv_l 1) (by exact (sa_cons (by exact se_tup (by exact (sa_cons (by exact se_tup (by exact (sa_cons (by exact se_int) (sa_cons (by exact se_tup (by exact (sa_cons (by exact se_tup (by exact (sa_cons (by exact se_int) (sa_cons (by exact se_int) (sa_cons (by exact se_tup (by exact (sa_cons (by exact se_int) (sa_cons (by exact se_int) sa_nil)))) sa_nil))))) (sa_cons (by exact se_tup (by exact (sa_cons (by exact se_int) (sa_cons (by exact se_int) (sa_cons (by exact se_tup (by exact (sa_cons (by exact se_int) (sa_cons (by exact se_int) sa_nil)))) sa_nil))))) (sa_cons (by exact se_tup (by exact (sa_cons (by exact se_int) (sa_cons (by exact se_int) (sa_cons (by exact se_tup (by exact (sa_cons (by exact se_int) (sa_cons (by exact se_int) sa_nil)))) sa_nil))))) (sa_cons (by exact se_tup (by exact (sa_cons (by exact se_int) (sa_cons (by exact se_int) (sa_cons (by exact se_tup (by exact (sa_cons (by exact se_int) (sa_cons (by exact se_int) sa_nil)))) sa_nil))))) sa_nil)))))) sa_nil)))) (sa_cons (by exact sv_l 3) sa_nil)))) sa_nil))))) (by exact (ss_cons (by exact ss_set (i := 4) sc__law_second.nd rfl (Or.inl rfl) (by exact se_tup (by exact (sa_cons (by exact se_int) (sa_cons (by exact se_tup (by exact (sa_cons (by exact se_tup (by exact (sa_cons (by exact se_int) (sa_cons (by exact se_int) (sa_cons (by exact se_tup (by exact (sa_cons (by exact se_int) (sa_cons (by exact se_int) sa_nil)))) sa_nil))))) (sa_cons (by exact se_tup (by exact (sa_cons (by exact se_int) (sa_cons (by exact se_int) (sa_cons (by exact se_tup (by exact (sa_cons (by exact se_int) (sa_cons (by exact se_int) sa_nil)))) sa_nil))))) (sa_cons (by exact se_tup (by exact (sa_cons (by exact se_int) (sa_cons (by exact se_int) (sa_cons (by exact se_tup (by exact (sa_cons (by exact se_int) (sa_cons (by exact se_int) sa_nil)))) sa_nil))))) (sa_cons (by exact se_tup (by exact (sa_cons (by exact se_int) (sa_cons (by exact se_int) (sa_cons (by exact se_tup (by exact (sa_cons (by exact se_int) (sa_cons (by exact se_int) sa_nil)))) sa_nil))))) (sa_cons (by exact se_tup (by exact (sa_cons (by exact se_int) (sa_cons (by exact se_int) (sa_cons (by exact se_tup (by exact (sa_cons (by exact se_int) (sa_cons (by exact se_int) sa_nil)))) sa_nil))))) sa_nil))))))) sa_nil))))) (by exact (ss_one (by exact ss_ret (by exact se_op so_add (by exact sv_l 1) (by exact se_lst (by exact (sa_cons (by exact se_tup (by exact (sa_cons (by exact se_tup (by exact (sa_cons (by exact se_int) (sa_cons (by exact se_tup (by exact (sa_cons (by exact se_tup (by exact (sa_cons (by exact se_int) (sa_cons (by exact se_int) (sa_cons (by exact se_tup (by exact (sa_cons (by exact se_int) (sa_cons (by exact se_int) sa_nil)))) sa_nil))))) (sa_cons (by exact se_tup (by exact (sa_cons (by exact se_int) (sa_cons (by exact se_int) (sa_cons (by exact se_tup (by exact (sa_cons (by exact se_int) (sa_cons (by exact se_int) sa_nil)))) sa_nil))))) sa_nil)))) sa_nil)))) (sa_cons (by exact sv_l 4) sa_nil)))) (sa_cons (by exact se_tup (by exact (sa_cons (by exact se_tup (by exact (sa_cons (by exact se_int) (sa_cons (by exact se_tup (by exact (sa_cons (by exact se_tup (by exact (sa_cons (by exact se_int) (sa_cons (by exact se_int) (sa_cons (by exact se_tup (by exact (sa_cons (by exact se_int) (sa_cons (by exact se_int) sa_nil)))) sa_nil))))) (sa_cons (by exact se_tup (by exact (sa_cons (by exact se_int) (sa_cons (by exact se_int) (sa_cons (by exact se_tup (by exact (sa_cons (by exact se_int) (sa_cons (by exact se_int) sa_nil)))) sa_nil))))) sa_nil)))) sa_nil)))) (sa_cons (by exact sv_l 4) sa_nil)))) sa_nil)))))))))))))))))))))
theorem ok__law_right (T : Top K mg) : FnG P w K mg base 7 T.f__law_right T.d__law_right ["_law_pool_here"] (spF K (T.ct P w) m__law_right 1) := fn_sim T.F__law_right sc__law_right fun cdv A outer s H E hr hgd =>
  (ss_cons (by exact ss_set (i := 1) sc__law_right.nd rfl (Or.inl rfl) (by exact se_op so_add (by exact se_call0 (ps := []) (by exact ok__law_first T) (by exact hr.mono (by decide)) (by exact hgd) (by rfl) (by exact T.m__law_first) (by exact T.F__law_first.kp) (by exact T.b__law_first)) (by exact se_call0 (ps := []) (by exact ok__law_second T) (by exact hr.mono (by decide)) (by exact hgd) (by rfl) (by exact T.m__law_second) (by exact T.F__law_second.kp) (by exact T.b__law_second)))) (by exact (ss_cons (by exact ss_for PassesOwn.never rfl (by exact (si_range1 rfl (by exact T.n_range) (by exact se_int))) (by exact (sg_name (ws := [2]) (i := 2) sc__law_right.nd rfl (Or.inl rfl) (by decide))) (by exact (ss_cons (by exact ss_asg (by exact se_ixE (hu65 hr) (by exact sv_l 1) (by exact se_call (ps := ["_law_pool_here", "_law_most"]) (by exact ok__law_draw T) (by exact hr.mono (by decide)) (by exact hgd) (by rfl) (by exact T.m__law_draw) (by exact T.F__law_draw.kp) (by exact T.b__law_draw) (by exact (sa_cons (by exact sv_l 0) (sa_cons (by exact se_callB sc_lenE (by rfl) (by exact T.n_len) (by decide +kernel) (by exact (sa_cons (by exact sv_l 1) sa_nil))) sa_nil))))) (by exact (sg_or2 (sg_tup rfl (sgs_cons (by exact (sg_name (ws := [3, 4]) (i := 3) sc__law_right.nd rfl (Or.inl rfl) (by decide))) (sgs_cons (by exact (sg_name (ws := [3, 4]) (i := 4) sc__law_right.nd rfl (Or.inl rfl) (by decide))) sgs_nil))) (sg_unl rfl (sgs_cons (by exact (sg_name (ws := [3, 4]) (i := 3) sc__law_right.nd rfl (Or.inl rfl) (by decide))) (sgs_cons (by exact (sg_name (ws := [3, 4]) (i := 4) sc__law_right.nd rfl (Or.inl rfl) (by decide))) sgs_nil)))))) (by exact (ss_cons (by exact ss_set (i := 5) sc__law_right.nd rfl (Or.inl rfl) (by exact se_lst (by exact (sa_cons (by exact se_call (ps := ["policy"]) (by exact ok_plain T) (by exact hr.mono (by decide)) (by exact hgd) (by rfl) (by exact T.m_plain) (by exact T.F_plain.kp) (by exact T.b_plain) (by exact (sa_cons (by exact sv_l 3) sa_nil))) (sa_cons (by exact se_callK (ps := ["policy"]) (ks := ["policy"]) (by exact ok_plain T) (by exact hr.mono (by decide)) (by exact hgd) (by rfl) (by exact T.m_plain) (by exact T.F_plain.kp) (by exact T.kw_plain_0) (sk_cons (by exact sv_l 3) sk_nil)) (sa_cons (by exact se_call (ps := ["policy"]) (by exact ok_plain T) (by exact hr.mono (by decide)) (by exact hgd) (by rfl) (by exact T.m_plain) (by exact T.F_plain.kp) (by exact T.b_plain) (by exact (sa_cons (by exact sv_l 4) sa_nil))) (sa_cons (by exact se_call (ps := ["policy"]) (by exact ok_plain T) (by exact hr.mono (by decide)) (by exact hgd) (by rfl) (by exact T.m_plain) (by exact T.F_plain.kp) (by exact T.b_plain) (by exact (sa_cons (by exact se_call (ps := ["policy"]) (by exact ok_plain T) (by exact hr.mono (by decide)) (by exact hgd) (by rfl) (by exact T.m_plain) (by exact T.F_plain.kp) (by exact T.b_plain) (by exact (sa_cons (by exact sv_l 3) sa_nil))) sa_nil))) sa_nil))))))) (by exact (ss_one (by exact ss_if (by exact st_cmp (by exact so_ne hr.units) (by exact se_callB (sc_reprE (by exact hgd) hr.units) (by rfl) (by exact T.n_repr) (by decide +kernel) (by exact (sa_cons (by exact sv_l 5) sa_nil))) (by exact se_callB (sc_reprE (by exact hgd) hr.units) (by rfl) (by exact T.n_repr) (by decide +kernel) (by exact (sa_cons (by exact se_op so_mul (by exact se_lst (by exact (sa_cons (by exact sv_l 4) sa_nil))) (by exact se_int)) sa_nil))) (nomark _)) (by exact (ss_one (by exact ss_ret (by exact se_bl)))) (by exact ss_nil))))))))) (by exact (ss_one (by exact ss_ret (by exact se_bl)))))))
theorem ok__law_pool (T : Top K mg) : FnG P w K mg base 1 T.f__law_pool T.d__law_pool ["_law_figure"] (spF K (T.ct P w) m__law_pool 1) := fn_sim T.F__law_pool sc__law_pool fun cdv A outer s H E hr hgd =>
  (ss_cons (by exact ss_set (i := 1) sc__law_pool.nd rfl (Or.inl rfl) (by exact se_if (by exact SW.st (sw_or (by exact st_cmp so_lt (by exact sv_l 0) (by exact se_int) (nomark _)) (sw_or1 (by exact st_cmp so_ge (by exact sv_l 0) (by exact se_op so_pow (by exact se_int) (by exact se_int)) (nomark _))))) (by exact se_callB sc_abs (by rfl) (by exact T.n_abs) (by decide +kernel) (by exact (sa_cons (by exact sv_l 0) sa_nil))) (by exact se_int))) (by exact (ss_one (by exact ss_ret (by exact se_lst (by exact (sa_cons (by exact se_op so_mod (by exact se_callTy sc_int (by rfl) (by exact T.n_int) (by decide +kernel) (by exact (sa_cons (by exact sv_l 0) sa_nil))) (by exact se_int)) (sa_cons (by exact sv_l 1) (sa_cons (by exact se_int) sa_nil)))))))))
theorem ok__law_cell (T : Top K mg) : FnG P w K mg base 1 T.f__law_cell T.d__law_cell ["_law_script", "_law_k"] (spF K (T.ct P w) m__law_cell 2) := fn_sim T.F__law_cell sc__law_cell fun cdv A outer s H E hr hgd =>
  (ss_cons (by exact ss_if (by exact st_cmp so_lt (by exact sv_l 1) (by exact se_callB sc_lenE (by rfl) (by exact T.n_len) (by decide +kernel) (by exact (sa_cons (by exact sv_l 0) sa_nil))) (nomark _)) (by exact (ss_one (by exact ss_ret (by exact se_callTy sc_int (by rfl) (by exact T.n_int) (by decide +kernel) (by exact (sa_cons (by exact se_ixE (hu65 hr) (by exact sv_l 0) (by exact sv_l 1)) sa_nil)))))) (by exact ss_nil)) (by exact (ss_cons (by exact ss_set (i := 2) sc__law_cell.nd rfl (Or.inl rfl) (by exact se_op so_mod (by exact se_op so_mul (by exact se_int) (by exact se_op so_add (by exact se_op so_add (by exact se_op so_mul (by exact sv_l 1) (by exact sv_l 1)) (by exact se_op so_mul (by exact se_int) (by exact sv_l 1))) (by exact se_int))) (by exact se_int))) (by exact (ss_cons (by exact ss_for PassesOwn.never rfl (by exact (si_seq (by exact se_slice (by exact sv_l 0) so_none (by exact so_some (by exact se_int))))) (by exact (sg_name (ws := [3]) (i := 3) sc__law_cell.nd rfl (Or.inl rfl) (by decide))) (by exact (ss_one (by exact ss_set (i := 2) sc__law_cell.nd rfl (Or.inl rfl) (by exact se_op so_mod (by exact se_op so_add (by exact se_op so_mul (by exact sv_l 2) (by exact se_int)) (by exact se_callTy sc_int (by rfl) (by exact T.n_int) (by decide +kernel) (by exact (sa_cons (by exact sv_l 3) sa_nil)))) (by exact se_int)))))) (by exact (ss_one (by exact ss_ret (by exact sv_l 2)))))))))
theorem ok_law (T : Top K mg) : FnG P w K mg base 8 T.f_law T.d_law ["_law_script"] (spF K (T.ct P w) m_law 1) := fn_sim T.F_law sc_law fun cdv A outer s H E hr hgd =>
  (ss_cons (by exact ss_if (by exact st_cmp (by exact so_ne hr.units) (by exact se_comp (own := [("_law_table", 1), ("_law_due", 2)]) rfl sc_law.nd (by exact (si_seq (by exact se_call0 (ps := []) (by exact ok__law_first T) (by exact hr.mono (by decide)) (by exact hgd) (by rfl) (by exact T.m__law_first) (by exact T.F__law_first.kp) (by exact T.b__law_first)))) (blkOk_by (N := ["_law_script", "_law_table", "_law_due", "_law_k"]) (sc := defScope s_law) (own := [("_law_table", 1), ("_law_due", 2)]) (by decide +kernel)) (fun _ _ _ _ _ => (by exact (sg_or2 (sg_tup rfl (sgs_cons (by exact (sg_name (ws := [1, 2]) (i := 1) sc_law.nd rfl (Or.inl rfl) (by decide))) (sgs_cons (by exact (sg_name (ws := [1, 2]) (i := 2) sc_law.nd rfl (Or.inl rfl) (by decide))) sgs_nil))) (sg_unl rfl (sgs_cons (by exact (sg_name (ws := [1, 2]) (i := 1) sc_law.nd rfl (Or.inl rfl) (by decide))) (sgs_cons (by exact (sg_name (ws := [1, 2]) (i := 2) sc_law.nd rfl (Or.inl rfl) (by decide))) sgs_nil)))))) (fun _ _ _ _ _ => sts_nil) (fun _ _ _ _ _ => (by exact se_callB (sc_reprE (by exact hgd) hr.units) (by rfl) (by exact T.n_repr) (by decide +kernel) (by exact (sa_cons (by exact se_call (ps := ["policy"]) (by exact ok_plain T) (by exact hr.mono (by decide)) (by exact hgd) (by rfl) (by exact T.m_plain) (by exact T.F_plain.kp) (by exact T.b_plain) (by exact (sa_cons (by exact sv_l 1) sa_nil))) sa_nil))))) (by exact se_comp (own := [("_law_table", 1), ("_law_due", 2)]) rfl sc_law.nd (by exact (si_seq (by exact se_call0 (ps := []) (by exact ok__law_first T) (by exact hr.mono (by decide)) (by exact hgd) (by rfl) (by exact T.m__law_first) (by exact T.F__law_first.kp) (by exact T.b__law_first)))) (blkOk_by (N := ["_law_script", "_law_table", "_law_due", "_law_k"]) (sc := defScope s_law) (own := [("_law_table", 1), ("_law_due", 2)]) (by decide +kernel)) (fun _ _ _ _ _ => (by exact (sg_or2 (sg_tup rfl (sgs_cons (by exact (sg_name (ws := [1, 2]) (i := 1) sc_law.nd rfl (Or.inl rfl) (by decide))) (sgs_cons (by exact (sg_name (ws := [1, 2]) (i := 2) sc_law.nd rfl (Or.inl rfl) (by decide))) sgs_nil))) (sg_unl rfl (sgs_cons (by exact (sg_name (ws := [1, 2]) (i := 1) sc_law.nd rfl (Or.inl rfl) (by decide))) (sgs_cons (by exact (sg_name (ws := [1, 2]) (i := 2) sc_law.nd rfl (Or.inl rfl) (by decide))) sgs_nil)))))) (fun _ _ _ _ _ => sts_nil) (fun _ _ _ _ _ => (by exact se_callB (sc_reprE (by exact hgd) hr.units) (by rfl) (by exact T.n_repr) (by decide +kernel) (by exact (sa_cons (by exact sv_l 2) sa_nil))))) (nomark _)) (by exact (ss_one (by exact ss_ret (by exact se_bl)))) (by exact ss_nil)) (by exact (ss_cons (by exact ss_if (by exact st_cmp (by exact so_ne hr.units) (by exact se_comp (own := [("_law_table", 1), ("_law_due", 2)]) rfl sc_law.nd (by exact (si_seq (by exact se_call0 (ps := []) (by exact ok__law_second T) (by exact hr.mono (by decide)) (by exact hgd) (by rfl) (by exact T.m__law_second) (by exact T.F__law_second.kp) (by exact T.b__law_second)))) (blkOk_by (N := ["_law_script", "_law_table", "_law_due", "_law_k"]) (sc := defScope s_law) (own := [("_law_table", 1), ("_law_due", 2)]) (by decide +kernel)) (fun _ _ _ _ _ => (by exact (sg_or2 (sg_tup rfl (sgs_cons (by exact (sg_name (ws := [1, 2]) (i := 1) sc_law.nd rfl (Or.inl rfl) (by decide))) (sgs_cons (by exact (sg_name (ws := [1, 2]) (i := 2) sc_law.nd rfl (Or.inl rfl) (by decide))) sgs_nil))) (sg_unl rfl (sgs_cons (by exact (sg_name (ws := [1, 2]) (i := 1) sc_law.nd rfl (Or.inl rfl) (by decide))) (sgs_cons (by exact (sg_name (ws := [1, 2]) (i := 2) sc_law.nd rfl (Or.inl rfl) (by decide))) sgs_nil)))))) (fun _ _ _ _ _ => sts_nil) (fun _ _ _ _ _ => (by exact se_callB (sc_reprE (by exact hgd) hr.units) (by rfl) (by exact T.n_repr) (by decide +kernel) (by exact (sa_cons (by exact se_call (ps := ["policy"]) (by exact ok_plain T) (by exact hr.mono (by decide)) (by exact hgd) (by rfl) (by exact T.m_plain) (by exact T.F_plain.kp) (by exact T.b_plain) (by exact (sa_cons (by exact sv_l 1) sa_nil))) sa_nil))))) (by exact se_comp (own := [("_law_table", 1), ("_law_due", 2)]) rfl sc_law.nd (by exact (si_seq (by exact se_call0 (ps := []) (by exact ok__law_second T) (by exact hr.mono (by decide)) (by exact hgd) (by rfl) (by exact T.m__law_second) (by exact T.F__law_second.kp) (by exact T.b__law_second)))) (blkOk_by (N := ["_law_script", "_law_table", "_law_due", "_law_k"]) (sc := defScope s_law) (own := [("_law_table", 1), ("_law_due", 2)]) (by decide +kernel)) (fun _ _ _ _ _ => (by exact (sg_or2 (sg_tup rfl (sgs_cons (by exact (sg_name (ws := [1, 2]) (i := 1) sc_law.nd rfl (Or.inl rfl) (by decide))) (sgs_cons (by exact (sg_name (ws := [1, 2]) (i := 2) sc_law.nd rfl (Or.inl rfl) (by decide))) sgs_nil))) (sg_unl rfl (sgs_cons (by exact (sg_name (ws := [1, 2]) (i := 1) sc_law.nd rfl (Or.inl rfl) (by decide))) (sgs_cons (by exact (sg_name (ws := [1, 2]) (i := 2) sc_law.nd rfl (Or.inl rfl) (by decide))) sgs_nil)))))) (fun _ _ _ _ _ => sts_nil) (fun _ _ _ _ _ => (by exact se_callB (sc_reprE (by exact hgd) hr.units) (by rfl) (by exact T.n_repr) (by decide +kernel) (by exact (sa_cons (by exact sv_l 2) sa_nil))))) (nomark _)) (by exact (ss_one (by exact ss_ret (by exact se_bl)))) (by exact ss_nil)) (by exact (ss_one (by exact ss_ret (by exact se_callB (sc_all rfl) (by rfl) (by exact T.n_all) (by decide +kernel) (by exact (sa_cons (by exact se_comp (own := [("_law_k", 3)]) rfl sc_law.nd (by exact (si_range1 rfl (by exact T.n_range) (by exact se_callB (sc_max rfl) (by rfl) (by exact T.n_max) (by decide +kernel) (by exact (sa_cons (by exact se_int) (sa_cons (by exact se_callB (sc_min rfl) (by rfl) (by exact T.n_min) (by decide +kernel) (by exact (sa_cons (by exact se_callB sc_lenE (by rfl) (by exact T.n_len) (by decide +kernel) (by exact (sa_cons (by exact sv_c 0) sa_nil))) (sa_cons (by exact se_int) sa_nil)))) sa_nil)))))) (blkOk_by (N := ["_law_script", "_law_table", "_law_due", "_law_k"]) (sc := defScope s_law) (own := [("_law_k", 3)]) (by decide +kernel)) (fun _ _ _ _ _ => (by exact (sg_name (ws := [3]) (i := 3) sc_law.nd rfl (Or.inl rfl) (by decide)))) (fun _ _ _ _ _ => sts_nil) (fun _ _ _ _ _ => (by exact se_call (ps := ["_law_pool_here"]) (by exact ok__law_right T) (by exact hr.mono (by decide)) (by exact hgd) (by rfl) (by exact T.m__law_right) (by exact T.F__law_right.kp) (by exact T.b__law_right) (by exact (sa_cons (by exact se_call (ps := ["_law_figure"]) (by exact ok__law_pool T) (by exact hr.mono (by decide)) (by exact hgd) (by rfl) (by exact T.m__law_pool) (by exact T.F__law_pool.kp) (by exact T.b__law_pool) (by exact (sa_cons (by exact se_call (ps := ["_law_script", "_law_k"]) (by exact ok__law_cell T) (by exact hr.mono (by decide)) (by exact hgd) (by rfl) (by exact T.m__law_cell) (by exact T.F__law_cell.kp) (by exact T.b__law_cell) (by exact (sa_cons (by exact sv_f 0) (sa_cons (by exact sv_l 3) sa_nil)))) sa_nil))) sa_nil))))) sa_nil)))))))))
end
theorem all_mk {K : Frg} {h : Heap} {mg : Str → Option Value} {fa : Addr} {C_Stages : Addr} {f_firsts_of : Addr} {oc_firsts_of kV_firsts_of dc_firsts_of pm_firsts_of cd_firsts_of ct_firsts_of : Value} {od_firsts_of an_firsts_of : Option Addr} {sl_firsts_of : Array (Option Value)} {f_numbered : Addr} {oc_numbered kV_numbered dc_numbered pm_numbered cd_numbered ct_numbered : Value} {od_numbered an_numbered : Option Addr} {sl_numbered : Array (Option Value)} {f_classes_of : Addr} {oc_classes_of kV_classes_of dc_classes_of pm_classes_of cd_classes_of ct_classes_of : Value} {od_classes_of an_classes_of : Option Addr} {sl_classes_of : Array (Option Value)} {f_after_hits : Addr} {oc_after_hits kV_after_hits dc_after_hits pm_after_hits cd_after_hits ct_after_hits : Value} {od_after_hits an_after_hits : Option Addr} {sl_after_hits : Array (Option Value)} {f_Stages_place_of : Addr} {oc_Stages_place_of kV_Stages_place_of dc_Stages_place_of pm_Stages_place_of cd_Stages_place_of ct_Stages_place_of : Value} {od_Stages_place_of an_Stages_place_of : Option Addr} {sl_Stages_place_of : Array (Option Value)} {f_after_miss : Addr} {oc_after_miss kV_after_miss dc_after_miss pm_after_miss cd_after_miss ct_after_miss : Value} {od_after_miss an_after_miss : Option Addr} {sl_after_miss : Array (Option Value)} {f_Stages_init : Addr} {oc_Stages_init kV_Stages_init dc_Stages_init pm_Stages_init cd_Stages_init ct_Stages_init : Value} {od_Stages_init an_Stages_init : Option Addr} {sl_Stages_init : Array (Option Value)} {f_is_integer : Addr} {oc_is_integer kV_is_integer dc_is_integer pm_is_integer cd_is_integer ct_is_integer : Value} {od_is_integer an_is_integer : Option Addr} {sl_is_integer : Array (Option Value)} {f_is_between : Addr} {oc_is_between kV_is_between dc_is_between pm_is_between cd_is_between ct_is_between : Value} {od_is_between an_is_between : Option Addr} {sl_is_between : Array (Option Value)} {f_is_row : Addr} {oc_is_row kV_is_row dc_is_row pm_is_row cd_is_row ct_is_row : Value} {od_is_row an_is_row : Option Addr} {sl_is_row : Array (Option Value)} {f_is_policy : Addr} {oc_is_policy kV_is_policy dc_is_policy pm_is_policy cd_is_policy ct_is_policy : Value} {od_is_policy an_is_policy : Option Addr} {sl_is_policy : Array (Option Value)} {f_check_policy : Addr} {oc_check_policy kV_check_policy dc_check_policy pm_check_policy cd_check_policy ct_check_policy : Value} {od_check_policy an_check_policy : Option Addr} {sl_check_policy : Array (Option Value)} {f_plain : Addr} {oc_plain kV_plain dc_plain pm_plain cd_plain ct_plain : Value} {od_plain an_plain : Option Addr} {sl_plain : Array (Option Value)} {f__law_draw : Addr} {oc__law_draw kV__law_draw dc__law_draw pm__law_draw cd__law_draw ct__law_draw : Value} {od__law_draw an__law_draw : Option Addr} {sl__law_draw : Array (Option Value)} {f__law_first : Addr} {oc__law_first kV__law_first dc__law_first pm__law_first cd__law_first ct__law_first : Value} {od__law_first an__law_first : Option Addr} {sl__law_first : Array (Option Value)} {f__law_second : Addr} {oc__law_second kV__law_second dc__law_second pm__law_second cd__law_second ct__law_second : Value} {od__law_second an__law_second : Option Addr} {sl__law_second : Array (Option Value)} {f__law_right : Addr} {oc__law_right kV__law_right dc__law_right pm__law_right cd__law_right ct__law_right : Value} {od__law_right an__law_right : Option Addr} {sl__law_right : Array (Option Value)} {f__law_pool : Addr} {oc__law_pool kV__law_pool dc__law_pool pm__law_pool cd__law_pool ct__law_pool : Value} {od__law_pool an__law_pool : Option Addr} {sl__law_pool : Array (Option Value)} {f__law_cell : Addr} {oc__law_cell kV__law_cell dc__law_cell pm__law_cell cd__law_cell ct__law_cell : Value} {od__law_cell an__law_cell : Option Addr} {sl__law_cell : Array (Option Value)} {f_law : Addr} {oc_law kV_law dc_law pm_law cd_law ct_law : Value} {od_law an_law : Option Addr} {sl_law : Array (Option Value)} {gt_MOST_LINES : Tok} {gt_MOST_STATES : Tok} (X : K.In h) (G : h.Ns mainGlobals mg) (hfa : mg "law" = some (.ref fa))
    (aC_Stages : PySem.W.nsIn K mainGlobals "Stages" = some (some (.ref C_Stages)))
    (pg_Stages : PySem.W.plainGet K C_Stages Str.empty = true)
    (hd_Stages : PySem.W.hasDictIn K C_Stages = true)
    (po_Stages : PySem.W.plainOver K C_Stages = true)
    (sa_Stages : PySem.W.findIn K (.ref C_Stages) "__setattr__" = some (some (.builtin "object.__setattr__")))
    (a_firsts_of : PySem.W.nsIn K mainGlobals "firsts_of" = some (some (.ref f_firsts_of)))
    (l_firsts_of : K.lookup f_firsts_of = some ⟨oc_firsts_of, od_firsts_of, .func (PySem.W.fnOf "firsts_of" "firsts_of" (defArgs s_firsts_of) (defBody s_firsts_of) (defScope s_firsts_of) .none kV_firsts_of dc_firsts_of pm_firsts_of an_firsts_of cd_firsts_of ct_firsts_of), sl_firsts_of⟩)
    (c_firsts_of : PySem.W.codeIn K cd_firsts_of "firsts_of" = true)
    (k_firsts_of : PySem.W.keepIn K (.ref f_firsts_of) = true)
    (a_numbered : PySem.W.nsIn K mainGlobals "numbered" = some (some (.ref f_numbered)))
    (l_numbered : K.lookup f_numbered = some ⟨oc_numbered, od_numbered, .func (PySem.W.fnOf "numbered" "numbered" (defArgs s_numbered) (defBody s_numbered) (defScope s_numbered) .none kV_numbered dc_numbered pm_numbered an_numbered cd_numbered ct_numbered), sl_numbered⟩)
    (c_numbered : PySem.W.codeIn K cd_numbered "numbered" = true)
    (k_numbered : PySem.W.keepIn K (.ref f_numbered) = true)
    (a_classes_of : PySem.W.nsIn K mainGlobals "classes_of" = some (some (.ref f_classes_of)))
    (l_classes_of : K.lookup f_classes_of = some ⟨oc_classes_of, od_classes_of, .func (PySem.W.fnOf "classes_of" "classes_of" (defArgs s_classes_of) (defBody s_classes_of) (defScope s_classes_of) .none kV_classes_of dc_classes_of pm_classes_of an_classes_of cd_classes_of ct_classes_of), sl_classes_of⟩)
    (c_classes_of : PySem.W.codeIn K cd_classes_of "classes_of" = true)
    (k_classes_of : PySem.W.keepIn K (.ref f_classes_of) = true)
    (a_after_hits : PySem.W.nsIn K mainGlobals "after_hits" = some (some (.ref f_after_hits)))
    (l_after_hits : K.lookup f_after_hits = some ⟨oc_after_hits, od_after_hits, .func (PySem.W.fnOf "after_hits" "after_hits" (defArgs s_after_hits) (defBody s_after_hits) (defScope s_after_hits) .none kV_after_hits dc_after_hits pm_after_hits an_after_hits cd_after_hits ct_after_hits), sl_after_hits⟩)
    (c_after_hits : PySem.W.codeIn K cd_after_hits "after_hits" = true)
    (k_after_hits : PySem.W.keepIn K (.ref f_after_hits) = true)
    (a_Stages_place_of : PySem.W.findIn K (.ref C_Stages) "place_of" = some (some (.ref f_Stages_place_of)))
    (i_Stages_place_of : PySem.W.isFn K (.ref f_Stages_place_of) = true)
    (l_Stages_place_of : K.lookup f_Stages_place_of = some ⟨oc_Stages_place_of, od_Stages_place_of, .func (PySem.W.fnOf "place_of" "Stages.place_of" (defArgs s_Stages_place_of) (defBody s_Stages_place_of) (defScope s_Stages_place_of) .none kV_Stages_place_of dc_Stages_place_of pm_Stages_place_of an_Stages_place_of cd_Stages_place_of ct_Stages_place_of), sl_Stages_place_of⟩)
    (c_Stages_place_of : PySem.W.codeIn K cd_Stages_place_of "Stages.place_of" = true)
    (k_Stages_place_of : PySem.W.keepIn K (.ref f_Stages_place_of) = true)
    (a_after_miss : PySem.W.nsIn K mainGlobals "after_miss" = some (some (.ref f_after_miss)))
    (l_after_miss : K.lookup f_after_miss = some ⟨oc_after_miss, od_after_miss, .func (PySem.W.fnOf "after_miss" "after_miss" (defArgs s_after_miss) (defBody s_after_miss) (defScope s_after_miss) .none kV_after_miss dc_after_miss pm_after_miss an_after_miss cd_after_miss ct_after_miss), sl_after_miss⟩)
    (c_after_miss : PySem.W.codeIn K cd_after_miss "after_miss" = true)
    (k_after_miss : PySem.W.keepIn K (.ref f_after_miss) = true)
    (a_Stages_init : PySem.W.findIn K (.ref C_Stages) "__init__" = some (some (.ref f_Stages_init)))
    (i_Stages_init : PySem.W.isFn K (.ref f_Stages_init) = true)
    (mk_Stages : PySem.W.makesIn K C_Stages = true)
    (kc_Stages : PySem.W.keepIn K (.ref C_Stages) = true)
    (l_Stages_init : K.lookup f_Stages_init = some ⟨oc_Stages_init, od_Stages_init, .func (PySem.W.fnOf "__init__" "Stages.__init__" (defArgs s_Stages_init) (defBody s_Stages_init) (defScope s_Stages_init) .none kV_Stages_init dc_Stages_init pm_Stages_init an_Stages_init cd_Stages_init ct_Stages_init), sl_Stages_init⟩)
    (c_Stages_init : PySem.W.codeIn K cd_Stages_init "Stages.__init__" = true)
    (k_Stages_init : PySem.W.keepIn K (.ref f_Stages_init) = true)
    (a_is_integer : PySem.W.nsIn K mainGlobals "is_integer" = some (some (.ref f_is_integer)))
    (l_is_integer : K.lookup f_is_integer = some ⟨oc_is_integer, od_is_integer, .func (PySem.W.fnOf "is_integer" "is_integer" (defArgs s_is_integer) (defBody s_is_integer) (defScope s_is_integer) .none kV_is_integer dc_is_integer pm_is_integer an_is_integer cd_is_integer ct_is_integer), sl_is_integer⟩)
    (c_is_integer : PySem.W.codeIn K cd_is_integer "is_integer" = true)
    (k_is_integer : PySem.W.keepIn K (.ref f_is_integer) = true)
    (a_is_between : PySem.W.nsIn K mainGlobals "is_between" = some (some (.ref f_is_between)))
    (l_is_between : K.lookup f_is_between = some ⟨oc_is_between, od_is_between, .func (PySem.W.fnOf "is_between" "is_between" (defArgs s_is_between) (defBody s_is_between) (defScope s_is_between) .none kV_is_between dc_is_between pm_is_between an_is_between cd_is_between ct_is_between), sl_is_between⟩)
    (c_is_between : PySem.W.codeIn K cd_is_between "is_between" = true)
    (k_is_between : PySem.W.keepIn K (.ref f_is_between) = true)
    (a_is_row : PySem.W.nsIn K mainGlobals "is_row" = some (some (.ref f_is_row)))
    (l_is_row : K.lookup f_is_row = some ⟨oc_is_row, od_is_row, .func (PySem.W.fnOf "is_row" "is_row" (defArgs s_is_row) (defBody s_is_row) (defScope s_is_row) .none kV_is_row dc_is_row pm_is_row an_is_row cd_is_row ct_is_row), sl_is_row⟩)
    (c_is_row : PySem.W.codeIn K cd_is_row "is_row" = true)
    (k_is_row : PySem.W.keepIn K (.ref f_is_row) = true)
    (a_is_policy : PySem.W.nsIn K mainGlobals "is_policy" = some (some (.ref f_is_policy)))
    (l_is_policy : K.lookup f_is_policy = some ⟨oc_is_policy, od_is_policy, .func (PySem.W.fnOf "is_policy" "is_policy" (defArgs s_is_policy) (defBody s_is_policy) (defScope s_is_policy) .none kV_is_policy dc_is_policy pm_is_policy an_is_policy cd_is_policy ct_is_policy), sl_is_policy⟩)
    (c_is_policy : PySem.W.codeIn K cd_is_policy "is_policy" = true)
    (k_is_policy : PySem.W.keepIn K (.ref f_is_policy) = true)
    (a_check_policy : PySem.W.nsIn K mainGlobals "check_policy" = some (some (.ref f_check_policy)))
    (l_check_policy : K.lookup f_check_policy = some ⟨oc_check_policy, od_check_policy, .func (PySem.W.fnOf "check_policy" "check_policy" (defArgs s_check_policy) (defBody s_check_policy) (defScope s_check_policy) .none kV_check_policy dc_check_policy pm_check_policy an_check_policy cd_check_policy ct_check_policy), sl_check_policy⟩)
    (c_check_policy : PySem.W.codeIn K cd_check_policy "check_policy" = true)
    (k_check_policy : PySem.W.keepIn K (.ref f_check_policy) = true)
    (a_plain : PySem.W.nsIn K mainGlobals "plain" = some (some (.ref f_plain)))
    (l_plain : K.lookup f_plain = some ⟨oc_plain, od_plain, .func (PySem.W.fnOf "plain" "plain" (defArgs s_plain) (defBody s_plain) (defScope s_plain) .none kV_plain dc_plain pm_plain an_plain cd_plain ct_plain), sl_plain⟩)
    (c_plain : PySem.W.codeIn K cd_plain "plain" = true)
    (k_plain : PySem.W.keepIn K (.ref f_plain) = true)
    (a__law_draw : PySem.W.nsIn K mainGlobals "_law_draw" = some (some (.ref f__law_draw)))
    (l__law_draw : K.lookup f__law_draw = some ⟨oc__law_draw, od__law_draw, .func (PySem.W.fnOf "_law_draw" "_law_draw" (defArgs s__law_draw) (defBody s__law_draw) (defScope s__law_draw) .none kV__law_draw dc__law_draw pm__law_draw an__law_draw cd__law_draw ct__law_draw), sl__law_draw⟩)
    (c__law_draw : PySem.W.codeIn K cd__law_draw "_law_draw" = true)
    (k__law_draw : PySem.W.keepIn K (.ref f__law_draw) = true)
    (a__law_first : PySem.W.nsIn K mainGlobals "_law_first" = some (some (.ref f__law_first)))
    (l__law_first : K.lookup f__law_first = some ⟨oc__law_first, od__law_first, .func (PySem.W.fnOf "_law_first" "_law_first" (defArgs s__law_first) (defBody s__law_first) (defScope s__law_first) .none kV__law_first dc__law_first pm__law_first an__law_first cd__law_first ct__law_first), sl__law_first⟩)
    (c__law_first : PySem.W.codeIn K cd__law_first "_law_first" = true)
    (k__law_first : PySem.W.keepIn K (.ref f__law_first) = true)
    (a__law_second : PySem.W.nsIn K mainGlobals "_law_second" = some (some (.ref f__law_second)))
    (l__law_second : K.lookup f__law_second = some ⟨oc__law_second, od__law_second, .func (PySem.W.fnOf "_law_second" "_law_second" (defArgs s__law_second) (defBody s__law_second) (defScope s__law_second) .none kV__law_second dc__law_second pm__law_second an__law_second cd__law_second ct__law_second), sl__law_second⟩)
    (c__law_second : PySem.W.codeIn K cd__law_second "_law_second" = true)
    (k__law_second : PySem.W.keepIn K (.ref f__law_second) = true)
    (a__law_right : PySem.W.nsIn K mainGlobals "_law_right" = some (some (.ref f__law_right)))
    (l__law_right : K.lookup f__law_right = some ⟨oc__law_right, od__law_right, .func (PySem.W.fnOf "_law_right" "_law_right" (defArgs s__law_right) (defBody s__law_right) (defScope s__law_right) .none kV__law_right dc__law_right pm__law_right an__law_right cd__law_right ct__law_right), sl__law_right⟩)
    (c__law_right : PySem.W.codeIn K cd__law_right "_law_right" = true)
    (k__law_right : PySem.W.keepIn K (.ref f__law_right) = true)
    (a__law_pool : PySem.W.nsIn K mainGlobals "_law_pool" = some (some (.ref f__law_pool)))
    (l__law_pool : K.lookup f__law_pool = some ⟨oc__law_pool, od__law_pool, .func (PySem.W.fnOf "_law_pool" "_law_pool" (defArgs s__law_pool) (defBody s__law_pool) (defScope s__law_pool) .none kV__law_pool dc__law_pool pm__law_pool an__law_pool cd__law_pool ct__law_pool), sl__law_pool⟩)
    (c__law_pool : PySem.W.codeIn K cd__law_pool "_law_pool" = true)
    (k__law_pool : PySem.W.keepIn K (.ref f__law_pool) = true)
    (a__law_cell : PySem.W.nsIn K mainGlobals "_law_cell" = some (some (.ref f__law_cell)))
    (l__law_cell : K.lookup f__law_cell = some ⟨oc__law_cell, od__law_cell, .func (PySem.W.fnOf "_law_cell" "_law_cell" (defArgs s__law_cell) (defBody s__law_cell) (defScope s__law_cell) .none kV__law_cell dc__law_cell pm__law_cell an__law_cell cd__law_cell ct__law_cell), sl__law_cell⟩)
    (c__law_cell : PySem.W.codeIn K cd__law_cell "_law_cell" = true)
    (k__law_cell : PySem.W.keepIn K (.ref f__law_cell) = true)
    (a_law : PySem.W.nsIn K mainGlobals "law" = some (some (.ref f_law)))
    (l_law : K.lookup f_law = some ⟨oc_law, od_law, .func (PySem.W.fnOf "law" "law" (defArgs s_law) (defBody s_law) (defScope s_law) .none kV_law dc_law pm_law an_law cd_law ct_law), sl_law⟩)
    (c_law : PySem.W.codeIn K cd_law "law" = true)
    (k_law : PySem.W.keepIn K (.ref f_law) = true)
    (na_Stages_order : PySem.W.findIn K (.ref C_Stages) "order" = some none)
    (na_Stages_places : PySem.W.findIn K (.ref C_Stages) "places" = some none)
    (na_Stages_rows : PySem.W.findIn K (.ref C_Stages) "rows" = some none)
    (z_abs : PySem.W.nsIn K mainGlobals "abs" = some none)
    (z_all : PySem.W.nsIn K mainGlobals "all" = some none)
    (z_bool : PySem.W.nsIn K mainGlobals "bool" = some none)
    (z_divmod : PySem.W.nsIn K mainGlobals "divmod" = some none)
    (z_enumerate : PySem.W.nsIn K mainGlobals "enumerate" = some none)
    (z_int : PySem.W.nsIn K mainGlobals "int" = some none)
    (z_isinstance : PySem.W.nsIn K mainGlobals "isinstance" = some none)
    (z_len : PySem.W.nsIn K mainGlobals "len" = some none)
    (z_max : PySem.W.nsIn K mainGlobals "max" = some none)
    (z_min : PySem.W.nsIn K mainGlobals "min" = some none)
    (z_range : PySem.W.nsIn K mainGlobals "range" = some none)
    (z_repr : PySem.W.nsIn K mainGlobals "repr" = some none)
    (z_set : PySem.W.nsIn K mainGlobals "set" = some none)
    (z_tuple : PySem.W.nsIn K mainGlobals "tuple" = some none)
    (z_zip : PySem.W.nsIn K mainGlobals "zip" = some none)
    (g_MOST_LINES : PySem.W.nsIn K mainGlobals "MOST_LINES" = some (some (.int 4 gt_MOST_LINES)))
    (g_MOST_STATES : PySem.W.nsIn K mainGlobals "MOST_STATES" = some (some (.int 64 gt_MOST_STATES))) :
    ∃ T : Top K mg, T.f_law = fa ∧ ∀ (s : Shared) (v : Value), BindsTo s T.d_law ⟨[v], []⟩ [("_law_script", v)] :=
  ⟨{ C_Stages := C_Stages,
     cl_Stages := ⟨pg_Stages, hd_Stages, po_Stages, sa_Stages⟩,
     mC_Stages := PySem.W.mg_of X G aC_Stages,
     f_firsts_of := f_firsts_of,
     d_firsts_of := PySem.W.fnOf "firsts_of" "firsts_of" (defArgs s_firsts_of) (defBody s_firsts_of) (defScope s_firsts_of) .none kV_firsts_of dc_firsts_of pm_firsts_of an_firsts_of cd_firsts_of ct_firsts_of,
     F_firsts_of := fun_mk (st := s_firsts_of) l_firsts_of c_firsts_of k_firsts_of,
     b_firsts_of := (fun_mk (st := s_firsts_of) l_firsts_of c_firsts_of k_firsts_of).binds (ps := ["stages", "classes"]) fun _ _ _ _ _ _ us hl => match us, hl with | [_, _], _ => rfl,
     m_firsts_of := PySem.W.mg_of X G a_firsts_of,
     f_numbered := f_numbered,
     d_numbered := PySem.W.fnOf "numbered" "numbered" (defArgs s_numbered) (defBody s_numbered) (defScope s_numbered) .none kV_numbered dc_numbered pm_numbered an_numbered cd_numbered ct_numbered,
     F_numbered := fun_mk (st := s_numbered) l_numbered c_numbered k_numbered,
     b_numbered := (fun_mk (st := s_numbered) l_numbered c_numbered k_numbered).binds (ps := ["keys"]) fun _ _ _ _ _ _ us hl => match us, hl with | [_], _ => rfl,
     m_numbered := PySem.W.mg_of X G a_numbered,
     f_classes_of := f_classes_of,
     d_classes_of := PySem.W.fnOf "classes_of" "classes_of" (defArgs s_classes_of) (defBody s_classes_of) (defScope s_classes_of) .none kV_classes_of dc_classes_of pm_classes_of an_classes_of cd_classes_of ct_classes_of,
     F_classes_of := fun_mk (st := s_classes_of) l_classes_of c_classes_of k_classes_of,
     b_classes_of := (fun_mk (st := s_classes_of) l_classes_of c_classes_of k_classes_of).binds (ps := ["stages"]) fun _ _ _ _ _ _ us hl => match us, hl with | [_], _ => rfl,
     m_classes_of := PySem.W.mg_of X G a_classes_of,
     f_after_hits := f_after_hits,
     d_after_hits := PySem.W.fnOf "after_hits" "after_hits" (defArgs s_after_hits) (defBody s_after_hits) (defScope s_after_hits) .none kV_after_hits dc_after_hits pm_after_hits an_after_hits cd_after_hits ct_after_hits,
     F_after_hits := fun_mk (st := s_after_hits) l_after_hits c_after_hits k_after_hits,
     b_after_hits := (fun_mk (st := s_after_hits) l_after_hits c_after_hits k_after_hits).binds (ps := ["policy", "stage"]) fun _ _ _ _ _ _ us hl => match us, hl with | [_, _], _ => rfl,
     m_after_hits := PySem.W.mg_of X G a_after_hits,
     f_Stages_place_of := f_Stages_place_of,
     d_Stages_place_of := PySem.W.fnOf "place_of" "Stages.place_of" (defArgs s_Stages_place_of) (defBody s_Stages_place_of) (defScope s_Stages_place_of) .none kV_Stages_place_of dc_Stages_place_of pm_Stages_place_of an_Stages_place_of cd_Stages_place_of ct_Stages_place_of,
     F_Stages_place_of := fun_mk (st := s_Stages_place_of) l_Stages_place_of c_Stages_place_of k_Stages_place_of,
     b_Stages_place_of := (fun_mk (st := s_Stages_place_of) l_Stages_place_of c_Stages_place_of k_Stages_place_of).binds (ps := ["self", "stage"]) fun _ _ _ _ _ _ us hl => match us, hl with | [_, _], _ => rfl,
     me_Stages_place_of := ⟨a_Stages_place_of, i_Stages_place_of, k_Stages_place_of⟩,
     f_after_miss := f_after_miss,
     d_after_miss := PySem.W.fnOf "after_miss" "after_miss" (defArgs s_after_miss) (defBody s_after_miss) (defScope s_after_miss) .none kV_after_miss dc_after_miss pm_after_miss an_after_miss cd_after_miss ct_after_miss,
     F_after_miss := fun_mk (st := s_after_miss) l_after_miss c_after_miss k_after_miss,
     b_after_miss := (fun_mk (st := s_after_miss) l_after_miss c_after_miss k_after_miss).binds (ps := ["policy", "stage"]) fun _ _ _ _ _ _ us hl => match us, hl with | [_, _], _ => rfl,
     m_after_miss := PySem.W.mg_of X G a_after_miss,
     f_Stages_init := f_Stages_init,
     d_Stages_init := PySem.W.fnOf "__init__" "Stages.__init__" (defArgs s_Stages_init) (defBody s_Stages_init) (defScope s_Stages_init) .none kV_Stages_init dc_Stages_init pm_Stages_init an_Stages_init cd_Stages_init ct_Stages_init,
     F_Stages_init := fun_mk (st := s_Stages_init) l_Stages_init c_Stages_init k_Stages_init,
     b_Stages_init := (fun_mk (st := s_Stages_init) l_Stages_init c_Stages_init k_Stages_init).binds (ps := ["self", "policy"]) fun _ _ _ _ _ _ us hl => match us, hl with | [_, _], _ => rfl,
     mk_Stages := ⟨mk_Stages, a_Stages_init, i_Stages_init, kc_Stages⟩,
     f_is_integer := f_is_integer,
     d_is_integer := PySem.W.fnOf "is_integer" "is_integer" (defArgs s_is_integer) (defBody s_is_integer) (defScope s_is_integer) .none kV_is_integer dc_is_integer pm_is_integer an_is_integer cd_is_integer ct_is_integer,
     F_is_integer := fun_mk (st := s_is_integer) l_is_integer c_is_integer k_is_integer,
     b_is_integer := (fun_mk (st := s_is_integer) l_is_integer c_is_integer k_is_integer).binds (ps := ["value"]) fun _ _ _ _ _ _ us hl => match us, hl with | [_], _ => rfl,
     m_is_integer := PySem.W.mg_of X G a_is_integer,
     f_is_between := f_is_between,
     d_is_between := PySem.W.fnOf "is_between" "is_between" (defArgs s_is_between) (defBody s_is_between) (defScope s_is_between) .none kV_is_between dc_is_between pm_is_between an_is_between cd_is_between ct_is_between,
     F_is_between := fun_mk (st := s_is_between) l_is_between c_is_between k_is_between,
     b_is_between := (fun_mk (st := s_is_between) l_is_between c_is_between k_is_between).binds (ps := ["value", "least", "greatest"]) fun _ _ _ _ _ _ us hl => match us, hl with | [_, _, _], _ => rfl,
     m_is_between := PySem.W.mg_of X G a_is_between,
     f_is_row := f_is_row,
     d_is_row := PySem.W.fnOf "is_row" "is_row" (defArgs s_is_row) (defBody s_is_row) (defScope s_is_row) .none kV_is_row dc_is_row pm_is_row an_is_row cd_is_row ct_is_row,
     F_is_row := fun_mk (st := s_is_row) l_is_row c_is_row k_is_row,
     b_is_row := (fun_mk (st := s_is_row) l_is_row c_is_row k_is_row).binds (ps := ["value", "lines", "states"]) fun _ _ _ _ _ _ us hl => match us, hl with | [_, _, _], _ => rfl,
     m_is_row := PySem.W.mg_of X G a_is_row,
     f_is_policy := f_is_policy,
     d_is_policy := PySem.W.fnOf "is_policy" "is_policy" (defArgs s_is_policy) (defBody s_is_policy) (defScope s_is_policy) .none kV_is_policy dc_is_policy pm_is_policy an_is_policy cd_is_policy ct_is_policy,
     F_is_policy := fun_mk (st := s_is_policy) l_is_policy c_is_policy k_is_policy,
     b_is_policy := (fun_mk (st := s_is_policy) l_is_policy c_is_policy k_is_policy).binds (ps := ["value"]) fun _ _ _ _ _ _ us hl => match us, hl with | [_], _ => rfl,
     m_is_policy := PySem.W.mg_of X G a_is_policy,
     f_check_policy := f_check_policy,
     d_check_policy := PySem.W.fnOf "check_policy" "check_policy" (defArgs s_check_policy) (defBody s_check_policy) (defScope s_check_policy) .none kV_check_policy dc_check_policy pm_check_policy an_check_policy cd_check_policy ct_check_policy,
     F_check_policy := fun_mk (st := s_check_policy) l_check_policy c_check_policy k_check_policy,
     b_check_policy := (fun_mk (st := s_check_policy) l_check_policy c_check_policy k_check_policy).binds (ps := ["policy"]) fun _ _ _ _ _ _ us hl => match us, hl with | [_], _ => rfl,
     m_check_policy := PySem.W.mg_of X G a_check_policy,
     f_plain := f_plain,
     d_plain := PySem.W.fnOf "plain" "plain" (defArgs s_plain) (defBody s_plain) (defScope s_plain) .none kV_plain dc_plain pm_plain an_plain cd_plain ct_plain,
     F_plain := fun_mk (st := s_plain) l_plain c_plain k_plain,
     b_plain := (fun_mk (st := s_plain) l_plain c_plain k_plain).binds (ps := ["policy"]) fun _ _ _ _ _ _ us hl => match us, hl with | [_], _ => rfl,
     m_plain := PySem.W.mg_of X G a_plain,
     f__law_draw := f__law_draw,
     d__law_draw := PySem.W.fnOf "_law_draw" "_law_draw" (defArgs s__law_draw) (defBody s__law_draw) (defScope s__law_draw) .none kV__law_draw dc__law_draw pm__law_draw an__law_draw cd__law_draw ct__law_draw,
     F__law_draw := fun_mk (st := s__law_draw) l__law_draw c__law_draw k__law_draw,
     b__law_draw := (fun_mk (st := s__law_draw) l__law_draw c__law_draw k__law_draw).binds (ps := ["_law_pool_here", "_law_most"]) fun _ _ _ _ _ _ us hl => match us, hl with | [_, _], _ => rfl,
     m__law_draw := PySem.W.mg_of X G a__law_draw,
     f__law_first := f__law_first,
     d__law_first := PySem.W.fnOf "_law_first" "_law_first" (defArgs s__law_first) (defBody s__law_first) (defScope s__law_first) .none kV__law_first dc__law_first pm__law_first an__law_first cd__law_first ct__law_first,
     F__law_first := fun_mk (st := s__law_first) l__law_first c__law_first k__law_first,
     b__law_first := (fun_mk (st := s__law_first) l__law_first c__law_first k__law_first).binds (ps := []) fun _ _ _ _ _ _ us hl => match us, hl with | [], _ => rfl,
     m__law_first := PySem.W.mg_of X G a__law_first,
     f__law_second := f__law_second,
     d__law_second := PySem.W.fnOf "_law_second" "_law_second" (defArgs s__law_second) (defBody s__law_second) (defScope s__law_second) .none kV__law_second dc__law_second pm__law_second an__law_second cd__law_second ct__law_second,
     F__law_second := fun_mk (st := s__law_second) l__law_second c__law_second k__law_second,
     b__law_second := (fun_mk (st := s__law_second) l__law_second c__law_second k__law_second).binds (ps := []) fun _ _ _ _ _ _ us hl => match us, hl with | [], _ => rfl,
     m__law_second := PySem.W.mg_of X G a__law_second,
     f__law_right := f__law_right,
     d__law_right := PySem.W.fnOf "_law_right" "_law_right" (defArgs s__law_right) (defBody s__law_right) (defScope s__law_right) .none kV__law_right dc__law_right pm__law_right an__law_right cd__law_right ct__law_right,
     F__law_right := fun_mk (st := s__law_right) l__law_right c__law_right k__law_right,
     b__law_right := (fun_mk (st := s__law_right) l__law_right c__law_right k__law_right).binds (ps := ["_law_pool_here"]) fun _ _ _ _ _ _ us hl => match us, hl with | [_], _ => rfl,
     m__law_right := PySem.W.mg_of X G a__law_right,
     f__law_pool := f__law_pool,
     d__law_pool := PySem.W.fnOf "_law_pool" "_law_pool" (defArgs s__law_pool) (defBody s__law_pool) (defScope s__law_pool) .none kV__law_pool dc__law_pool pm__law_pool an__law_pool cd__law_pool ct__law_pool,
     F__law_pool := fun_mk (st := s__law_pool) l__law_pool c__law_pool k__law_pool,
     b__law_pool := (fun_mk (st := s__law_pool) l__law_pool c__law_pool k__law_pool).binds (ps := ["_law_figure"]) fun _ _ _ _ _ _ us hl => match us, hl with | [_], _ => rfl,
     m__law_pool := PySem.W.mg_of X G a__law_pool,
     f__law_cell := f__law_cell,
     d__law_cell := PySem.W.fnOf "_law_cell" "_law_cell" (defArgs s__law_cell) (defBody s__law_cell) (defScope s__law_cell) .none kV__law_cell dc__law_cell pm__law_cell an__law_cell cd__law_cell ct__law_cell,
     F__law_cell := fun_mk (st := s__law_cell) l__law_cell c__law_cell k__law_cell,
     b__law_cell := (fun_mk (st := s__law_cell) l__law_cell c__law_cell k__law_cell).binds (ps := ["_law_script", "_law_k"]) fun _ _ _ _ _ _ us hl => match us, hl with | [_, _], _ => rfl,
     m__law_cell := PySem.W.mg_of X G a__law_cell,
     f_law := f_law,
     d_law := PySem.W.fnOf "law" "law" (defArgs s_law) (defBody s_law) (defScope s_law) .none kV_law dc_law pm_law an_law cd_law ct_law,
     F_law := fun_mk (st := s_law) l_law c_law k_law,
     b_law := (fun_mk (st := s_law) l_law c_law k_law).binds (ps := ["_law_script"]) fun _ _ _ _ _ _ us hl => match us, hl with | [_], _ => rfl,
     m_law := PySem.W.mg_of X G a_law,
     na_Stages_order := na_Stages_order,
     na_Stages_places := na_Stages_places,
     na_Stages_rows := na_Stages_rows,
     n_abs := PySem.W.mg_none_of X G z_abs,
     n_all := PySem.W.mg_none_of X G z_all,
     n_bool := PySem.W.mg_none_of X G z_bool,
     n_divmod := PySem.W.mg_none_of X G z_divmod,
     n_enumerate := PySem.W.mg_none_of X G z_enumerate,
     n_int := PySem.W.mg_none_of X G z_int,
     n_isinstance := PySem.W.mg_none_of X G z_isinstance,
     n_len := PySem.W.mg_none_of X G z_len,
     n_max := PySem.W.mg_none_of X G z_max,
     n_min := PySem.W.mg_none_of X G z_min,
     n_range := PySem.W.mg_none_of X G z_range,
     n_repr := PySem.W.mg_none_of X G z_repr,
     n_set := PySem.W.mg_none_of X G z_set,
     n_tuple := PySem.W.mg_none_of X G z_tuple,
     n_zip := PySem.W.mg_none_of X G z_zip,
     g_MOST_LINES := ⟨.int 4, _, PySem.W.mg_of X G g_MOST_LINES, ⟨_, rfl⟩, fun _ _ => .int _⟩,
     g_MOST_STATES := ⟨.int 64, _, PySem.W.mg_of X G g_MOST_STATES, ⟨_, rfl⟩, fun _ _ => .int _⟩,
     kw_plain_0 := fun s ws _ hl => .of_eq (match ws, hl with | [_], _ => rfl) },
   (Option.some.inj ((PySem.W.mg_of X G a_law).symm.trans hfa)) |> Value.ref.inj, fun s v => .of_eq rfl⟩
end L54


/-! text G1_54 -/
local macro_rules | `(tactic| bv_omega) => `(tactic| first | assumption | exact Zl.at_new | (apply Zl.at_set; bv_omega) | (apply Zl.at_set_ne; (focus (bv_omega; done)); omega) | (apply Zl.at_app; bv_omega) | (apply Zl.Kp.at; (focus (assumption; done)); (focus (bv_omega; done)); first | exact id | omega))
local macro_rules | `(tactic| array_mem_dec) => `(tactic| first | exact Zl.Kp.refl | assumption | (apply Zl.Kp.setl; (focus (array_mem_dec; done)); (intro _; omega)) | (apply Zl.Kp.appl; array_mem_dec) | (apply Zl.Kp.tl; (focus (assumption; done)); (focus (array_mem_dec; done)); intro n hn hw; first | exact hw | exact hw.elim | omega))
local macro_rules | `(tactic| subst_eqs) => `(tactic| first | exact Zl.rdL_nil | (apply Zl.rd_loc; (focus (bv_omega; done)); subst_eqs) | (apply Zl.rd_tup; subst_eqs) | (apply Zl.rdL_cons; (focus (subst_eqs; done)); subst_eqs) | exact Zl.rd_bls _ | with_unfolding_all rfl)
local macro_rules | `(tactic| simp_wf) => `(tactic| with_reducible repeat (first | apply Zl.wp_seq | apply Zl.k_nx | apply Zl.k_rt | apply Zl.k_bk | apply Zl.k_ct | apply Zl.wp_ret | apply Zl.wp_set | apply Zl.wp_drop | apply Zl.wp_asg | apply Zl.wp_par | apply Zl.wp_ifs | apply Zl.wp_end | apply Zl.wp_brk | apply Zl.wp_cnt | apply Zl.kf_rt | apply Zl.kf_nx | apply Zl.wp_k | apply Zl.wp_op | apply Zl.wp_un | apply Zl.wp_chain | apply Zl.wp_b | apply Zl.wp_trB | apply Zl.wp_not | apply Zl.wp_andT | apply Zl.wp_orT | apply Zl.wp_andV | apply Zl.wp_notV | apply Zl.wp_if | apply Zl.wp_nil | apply Zl.wp_cons | apply Zl.wp_tup | apply Zl.wp_lstA | apply Zl.wp_c | apply Zl.wp_call | apply Zl.wp_slP | apply Zl.wp_noP | apply Zl.wp_gN | apply Zl.wp_gsNil | apply Zl.wp_gsCons | apply Zl.wp_gS | apply Zl.wp_addI | apply Zl.wp_subI | apply Zl.wp_cmp | apply Zl.wp_eqI | apply Zl.wp_eqS | apply Zl.kb | apply Zl.ki_t | apply Zl.ki_f | apply Zl.kc_t | apply Zl.kc_f | apply Zl.wp_fld | apply Zl.wp_put | apply Zl.wp_meth | apply Zl.wp_make | apply Zl.wp_m | apply Zl.wp_src | apply Zl.wp_enum | apply Zl.wq_zip | apply Zl.wp_rngN | apply Zl.wp_P | apply Zl.wp_ok | apply Zl.wp_bnd | apply Zl.wq_dnew | apply Zl.kl_nx | apply Zl.kl_rt | apply Zl.kl_ct | apply Zl.kl_bk | refine Zl.wp_var (by with_unfolding_all rfl) ?_ | refine Zl.k_len (by with_unfolding_all rfl) ?_ | refine Zl.k_le (by with_unfolding_all rfl) ?_ | refine Zl.wp_isi (by with_unfolding_all rfl) ?_ | refine Zl.wp_len (by with_unfolding_all rfl) ?_ | refine Zl.wp_intd (by with_unfolding_all rfl) ?_ | refine Zl.wp_ixT (by with_unfolding_all rfl) ?_ | refine Zl.wp_gT (by with_unfolding_all rfl) ?_ | refine Zl.wp_gPr (by with_unfolding_all rfl) ?_))
local macro_rules | `(tactic| clean_wf) => `(tactic| with_reducible repeat (first | apply Zl.wp_seq | apply Zl.k_nx | apply Zl.k_rt | apply Zl.k_bk | apply Zl.k_ct | apply Zl.wp_ret | apply Zl.wp_set | apply Zl.wp_drop | apply Zl.wp_asg | apply Zl.wp_par | apply Zl.wp_ifs | apply Zl.wp_end | apply Zl.wp_brk | apply Zl.wp_cnt | apply Zl.kf_rt | apply Zl.kf_nx | apply Zl.wp_k | apply Zl.wp_op | apply Zl.wp_un | apply Zl.wp_chain | apply Zl.wp_b | apply Zl.wp_trB | apply Zl.wp_not | apply Zl.wp_andT | apply Zl.wp_orT | apply Zl.wp_andV | apply Zl.wp_notV | apply Zl.wp_if | apply Zl.wp_nil | apply Zl.wp_cons | apply Zl.wp_tup | apply Zl.wp_lst | apply Zl.wp_c | apply Zl.wp_call | apply Zl.wp_slP | apply Zl.wp_noP | apply Zl.wp_gN | apply Zl.wp_gsNil | apply Zl.wp_gsCons | apply Zl.wp_gS | apply Zl.wp_addI | apply Zl.wp_subI | apply Zl.wp_cmp | apply Zl.wp_eqI | apply Zl.wp_eqS | apply Zl.kb | apply Zl.ki_t | apply Zl.ki_f | apply Zl.kc_t | apply Zl.kc_f | apply Zl.wp_fld | apply Zl.wp_put | apply Zl.wp_meth | apply Zl.wp_make | apply Zl.wp_m | apply Zl.wp_src | apply Zl.wp_enum | apply Zl.wq_zip | apply Zl.wp_rngN | apply Zl.wp_P | apply Zl.wp_ok | apply Zl.wp_bnd | apply Zl.wq_dnew | apply Zl.kl_nx | apply Zl.kl_rt | apply Zl.kl_ct | apply Zl.kl_bk | refine Zl.wp_var (by with_unfolding_all rfl) ?_ | refine Zl.k_len (by with_unfolding_all rfl) ?_ | refine Zl.k_le (by with_unfolding_all rfl) ?_ | refine Zl.wp_isi (by with_unfolding_all rfl) ?_ | refine Zl.wp_len (by with_unfolding_all rfl) ?_ | refine Zl.wp_intd (by with_unfolding_all rfl) ?_ | refine Zl.wp_ixT (by with_unfolding_all rfl) ?_ | refine Zl.wp_gT (by with_unfolding_all rfl) ?_ | refine Zl.wp_gPr (by with_unfolding_all rfl) ?_))
local macro_rules | `(tactic| array_get_dec) => `(tactic| with_reducible repeat (first | apply Zl.wp_seq | apply Zl.k_nx | apply Zl.k_rt | apply Zl.k_bk | apply Zl.k_ct | apply Zl.wp_ret | apply Zl.wp_set | apply Zl.wp_drop | apply Zl.wp_asg | apply Zl.wp_par | apply Zl.wp_ifs | apply Zl.wp_end | apply Zl.wp_brk | apply Zl.wp_cnt | apply Zl.kf_rt | apply Zl.kf_nx | apply Zl.wp_k | apply Zl.wp_op | apply Zl.wp_un | apply Zl.wp_chain | apply Zl.wp_b | apply Zl.wp_trB | apply Zl.wp_not | apply Zl.wp_andT | apply Zl.wp_orT | apply Zl.wp_andV | apply Zl.wp_notV | apply Zl.wp_if | apply Zl.wp_nil | apply Zl.wp_cons | apply Zl.wp_tup | apply Zl.wq_lst | apply Zl.wp_c | apply Zl.wp_call | apply Zl.wp_slP | apply Zl.wp_noP | apply Zl.wp_gN | apply Zl.wp_gsNil | apply Zl.wp_gsCons | apply Zl.wq_gS | apply Zl.wp_addI | apply Zl.wp_subI | apply Zl.wp_cmp | apply Zl.wp_eqI | apply Zl.wp_eqS | apply Zl.kb | apply Zl.ki_t | apply Zl.ki_f | apply Zl.kc_t | apply Zl.kc_f | apply Zl.wq_fld | apply Zl.wq_put | apply Zl.wq_meth' | apply Zl.wq_make2 | apply Zl.wq_m | apply Zl.wq_src | apply Zl.wq_enum | apply Zl.wq_zip | apply Zl.wq_rng | apply Zl.wq_P | apply Zl.wp_ok | apply Zl.wp_bnd | apply Zl.wq_dnew | apply Zl.kl_nx | apply Zl.kl_rt | apply Zl.kl_ct | apply Zl.kl_bk | refine Zl.wp_var (by with_unfolding_all rfl) ?_ | refine Zl.k_len (by with_unfolding_all rfl) ?_ | refine Zl.k_le (by with_unfolding_all rfl) ?_ | refine Zl.wp_isi (by with_unfolding_all rfl) ?_ | refine Zl.wp_len (by with_unfolding_all rfl) ?_ | refine Zl.wp_intd (by with_unfolding_all rfl) ?_ | refine Zl.wp_ixT (by with_unfolding_all rfl) ?_ | refine Zl.wp_gT (by with_unfolding_all rfl) ?_ | refine Zl.wp_gPr (by with_unfolding_all rfl) ?_ | (apply Zl.k_fld; (focus (bv_omega; done)); (focus (with_unfolding_all rfl; done))) | (apply Zl.k_putO; (focus (bv_omega; done)); (focus (with_unfolding_all rfl; done))) | (apply Zl.k_ins; (focus (bv_omega; done)); (focus (with_unfolding_all rfl; done))) | apply Zl.k_pos | apply Zl.k_non | (apply Zl.k_tyL; (focus (bv_omega; done))) | apply Zl.k_tyT | (apply Zl.k_srcL; (focus (bv_omega; done))) | apply Zl.k_srcT | apply Zl.k_srcR | apply Zl.k_zipT | apply Zl.k_enumT | (apply Zl.wr_lstL; (focus (bv_omega; done))) | apply Zl.wr_lstT | apply Zl.k_srcS | (apply Zl.wp_aug; (focus (with_unfolding_all rfl; done))) | apply Zl.k_int | apply Zl.k_nat | apply Zl.k_natL | (apply Zl.k_sml; (focus ((first | omega | with_unfolding_all decide); done))) | (apply Zl.k_new; intro _ _ _ _ _ _) | (apply Zl.k_wr; intro _ _ _ _) | apply Zl.kt_nx | apply Zl.kt_ct | apply Zl.kt_bk | apply Zl.kt_rt | (apply Zl.k_acc; (focus (bv_omega; done)); (focus (with_unfolding_all rfl; done))) | (apply Zl.wv_map; (focus (with_unfolding_all rfl; done)); (focus ((first | with_unfolding_all rfl | (apply Zl.stpL_go; (focus (bv_omega; done)); with_unfolding_all rfl) | (apply Zl.stpL_end; bv_omega) | (refine Eq.trans (Zl.stpL_at (by bv_omega)) ?_; with_unfolding_all rfl)); done))) | (apply Zl.wuc_end; (focus ((first | with_unfolding_all rfl | (apply Zl.stpL_go; (focus (bv_omega; done)); with_unfolding_all rfl) | (apply Zl.stpL_end; bv_omega) | (refine Eq.trans (Zl.stpL_at (by bv_omega)) ?_; with_unfolding_all rfl)); done))) | (apply Zl.wv_go; (focus (with_unfolding_all rfl; done)); (focus ((first | with_unfolding_all rfl | (apply Zl.stpL_go; (focus (bv_omega; done)); with_unfolding_all rfl) | (apply Zl.stpL_end; bv_omega) | (refine Eq.trans (Zl.stpL_at (by bv_omega)) ?_; with_unfolding_all rfl)); done))) | (apply Zl.wu_end; (focus ((first | with_unfolding_all rfl | (apply Zl.stpL_go; (focus (bv_omega; done)); with_unfolding_all rfl) | (apply Zl.stpL_end; bv_omega) | (refine Eq.trans (Zl.stpL_at (by bv_omega)) ?_; with_unfolding_all rfl)); done))) | (apply Zl.wp_ixL; (focus (bv_omega; done)); (focus ((first | (apply Zl.atI_n; assumption) | with_unfolding_all rfl); done))) | (apply Zl.wp_ixT; (focus ((apply Zl.atI_n; assumption); done))) | (apply Zl.k_setO; (focus (bv_omega; done)); (focus (with_unfolding_all rfl; done))) | (apply Zl.k_setDk; (focus (bv_omega; done)); (focus (with_unfolding_all rfl; done)); (focus (omega; done))) | (apply Zl.wp_lenL; (focus (bv_omega; done))) | (apply Zl.wp_tupL; (focus (bv_omega; done))) | (apply Zl.wp_modI; (focus (omega; done))) | (apply Zl.wp_fdivI; (focus (omega; done))) | (apply Zl.wp_mulI; (focus (omega; done))) | apply Zl.wp_slT | (apply Zl.wq_addT; (focus ((first | (simp; done) | with_unfolding_all decide); done))) | (apply Zl.wq_addL; (focus (bv_omega; done)); (focus (bv_omega; done)); (focus ((first | (simp; done) | with_unfolding_all decide); done))) | apply Zl.wq_slR | (apply Zl.wq_slL; (focus (bv_omega; done))) | (apply Zl.wp_gL; (focus (bv_omega; done)); (focus (with_unfolding_all rfl; done)))))
local macro_rules | `(tactic| ac_nf0) => `(tactic| first | rfl | decide | (simp; done) | (simp; omega))
namespace L54
open PySem L2 PySem.Spec PyProof.Rows Zl
def Pool (p : Nat) (M : Mem) : Prop := ∃ a b c : Int, M[p]? = some (.lst [.int a, .int b, .int c])
abbrev At (p : Nat) : Nat → Prop := fun n => n = p
theorem sp_draw {p : Nat} {m : Int} {M : Mem} (h : Pool p M) (hm : 0 < m) (hm2 : m < 1073741824) : Wp (m__law_draw [.loc p, .int m] M) fun d M' => (∃ r : Nat, d = .int r ∧ (r : Int) < m) ∧ Pool p M' ∧ Kp (At p) M M' := by
  obtain ⟨a, b, c, h⟩ := h
  refine wp_fn rfl [some (.loc p), some (.int m), none, none] rfl ?_
  unfold b__law_draw
  clean_wf
  refine wp_ixL h rfl ?_
  clean_wf
  refine ⟨_, set_i (j := 2) h rfl, ?_⟩
  have k1 : Kp (At p) M (M.set p (.lst ([.int a, .int b, .int c].set 2 (.int (c + 1))))) := .set fun _ => rfl
  have h1 := at_set (o := .lst ([.int a, .int b, .int c].set 2 (.int (c + 1)))) h
  generalize M.set p (.lst ([.int a, .int b, .int c].set 2 (.int (c + 1)))) = M1 at k1 h1
  clean_wf
  refine wp_ixL h1 rfl ?_
  clean_wf
  refine wp_modI (by decide) ?_
  clean_wf
  refine wp_mulI (.inr (by omega)) ?_
  clean_wf
  refine wp_ixL h1 rfl ?_
  refine wp_mulI (.inl (by decide)) ?_
  clean_wf
  refine wp_modI (by decide) ?_
  clean_wf
  refine ⟨_, set_i (j := 0) h1 rfl, ?_⟩
  generalize hv : ((a * (a % 50021 + 30011) + 80021 * (c + 1)) % 2147483249 : Int) = v
  have k2 : Kp (At p) M1 (M1.set p (.lst (([.int a, .int b, .int c].set 2 (.int (c + 1))).set 0 (.int v)))) := .set fun _ => rfl
  have h2 : (M1.set p (.lst (([.int a, .int b, .int c].set 2 (.int (c + 1))).set 0 (.int v))))[p]? = some (.lst [.int v, .int b, .int (c + 1)]) := at_set h1
  have k3 := k1.tr k2
  generalize M1.set p (.lst (([.int a, .int b, .int c].set 2 (.int (c + 1))).set 0 (.int v))) = M2 at k3 h2
  clean_wf
  refine wp_ixL h2 rfl ?_
  clean_wf
  by_cases hb : (0 : Int) < b
  · refine ki_of (decide_eq_true hb) ?_
    clean_wf
    refine wp_ixL h2 rfl ?_
    clean_wf
    refine wp_ev (if_pos ⟨hm, hm2⟩) ?_
    clean_wf
    refine ⟨_, set_i (j := 1) h2 rfl, ?_⟩
    clean_wf
    refine ⟨⟨(b % m).toNat, ?_, ?_⟩, ⟨v, b / m, c + 1, at_set h2⟩, k3.tr (.set fun _ => rfl)⟩
    · rw [Int.toNat_of_nonneg (Int.emod_nonneg _ (by omega))]
    · rw [Int.toNat_of_nonneg (Int.emod_nonneg _ (by omega))]
      exact Int.emod_lt_of_pos _ hm
  · refine ki_of (decide_eq_false hb) ?_
    clean_wf
    refine wp_ixL h2 rfl ?_
    clean_wf
    refine wp_fdivI (by decide) ?_
    clean_wf
    refine wp_modI hm ?_
    clean_wf
    refine ⟨⟨(v / 64 % m).toNat, ?_, ?_⟩, ⟨v, b, c + 1, h2⟩, k3⟩
    · rw [Int.toNat_of_nonneg (Int.emod_nonneg _ (by omega))]
    · rw [Int.toNat_of_nonneg (Int.emod_nonneg _ (by omega))]
      exact Int.emod_lt_of_pos _ hm

theorem Pool.keep {p n : Nat} {M : Mem} {o : Ob} (h : Pool p M) (e : p ≠ n) : Pool p (M.set n o) := by
  obtain ⟨a, b, c, h⟩ := h
  exact ⟨a, b, c, at_set_ne h (Ne.symm e)⟩
theorem Pool.app {p : Nat} {M L : Mem} (h : Pool p M) : Pool p (M ++ L) := by
  obtain ⟨a, b, c, h⟩ := h
  exact ⟨a, b, c, at_app h⟩
theorem Pool.lt {p : Nat} {M : Mem} (h : Pool p M) : p < M.length := by
  obtain ⟨a, b, c, h⟩ := h
  exact lt_of h
theorem Pool.kp {p : Nat} {M M' : Mem} (h : Pool p M) (k : Kp NoW M M') : Pool p M' := by
  obtain ⟨a, b, c, h⟩ := h
  exact ⟨a, b, c, k.at h id⟩
end L54

/-! text G2_54 -/
namespace L54
open PySem L2 PySem.Spec PyProof.Rows Zl
/-- names -/
def okName (x : Str) : Bool := decide (1 ≤ x.length) && decide (x.length ≤ 6) && x.cps.toList.all fun c => decide (c ∈ ("abcdefghijklmnopqrstuvwxyz" : Str).cps.toList)
def strsD (ws : List Str) : List Dv := ws.map .str
theorem sp_pool {x : Int} {M : Mem} : Wp (m__law_pool [.int x] M) fun d M' => ∃ p, d = .loc p ∧ p = M.length ∧ Pool p M' ∧ Kp NoW M M' := by
  refine wp_fn rfl [some (.int x), none] rfl ?_
  unfold b__law_pool
  simp_wf
  by_cases h1 : x < 0
  · refine ki_of (decide_eq_true h1) ?_
    simp_wf
    refine wp_ev (a := .int (if x < 0 then -x else x)) rfl ?_
    simp_wf
    refine wp_modI (by decide) ?_
    simp_wf
    intro n1 M1 e1 g1 k1 l1
    simp_wf
    exact ⟨n1, rfl, e1, ⟨_, _, _, g1⟩, k1⟩
  · refine ki_of (decide_eq_false h1) ?_
    simp_wf
    refine wp_ev (a := .int 1000000000000000000) rfl ?_
    simp_wf
    by_cases h2 : (1000000000000000000 : Int) ≤ x
    · refine ki_of (decide_eq_true h2) ?_
      simp_wf
      refine wp_ev (a := .int (if x < 0 then -x else x)) rfl ?_
      simp_wf
      refine wp_modI (by decide) ?_
      simp_wf
      intro n1 M1 e1 g1 k1 l1
      simp_wf
      exact ⟨n1, rfl, e1, ⟨_, _, _, g1⟩, k1⟩
    · refine ki_of (decide_eq_false h2) ?_
      simp_wf
      refine wp_modI (by decide) ?_
      simp_wf
      intro n1 M1 e1 g1 k1 l1
      simp_wf
      exact ⟨n1, rfl, e1, ⟨_, _, _, g1⟩, k1⟩
theorem sp_cell {ns : List Int} {k : Nat} {M : Mem} (hk : k < 100) : Wp (m__law_cell [.rol (ns.map .int), .int (k : Nat)] M) fun d M' => (∃ x : Int, d = .int x) ∧ Kp NoW M M' := by
  refine wp_fn rfl [some (.rol (ns.map .int)), some (.int (k : Nat)), none, none] rfl ?_
  unfold b__law_cell
  simp_wf
  by_cases h : (k : Int) < ((ns.map Dv.int).length : Nat)
  · refine ki_of (decide_eq_true h) ?_
    simp_wf
    have h' : k < ns.length := by simpa using h
    refine wp_ixR (atI_n (x := Dv.int ns[k]) (by simp [h'])) ?_
    simp_wf
    exact ⟨⟨_, rfl⟩, .refl⟩
  · refine ki_of (decide_eq_false h) ?_
    simp_wf
    refine wp_mulI (.inr (by omega)) ?_
    simp_wf
    refine wp_mulI (.inl (by decide)) ?_
    simp_wf
    refine wp_mulI (.inl (by decide)) ?_
    simp_wf
    refine wp_modI (by decide) ?_
    simp_wf
    refine wp_for (fun i env M' => ∃ (x3 : Option Dv) (z : Int), env = [some (.rol (ns.map .int)), some (.int (k : Nat)), some (.int z), x3] ∧ M'[M.length]? = some (.lst (cutD (ns.map .int) none (some 3))) ∧ Kp NoW M M') ?_
    simp_wf
    refine ⟨_, rfl, ?_⟩
    refine wp_slR ?_
    rintro _ M1 rfl g1 k1 _
    refine ⟨_, src_loc g1, ⟨none, _, rfl, g1, k1⟩, ?_, ?_⟩
    · rintro i env M' hi ⟨x3, z, rfl, g2, k2⟩
      have hi' : i < (cutD (ns.map Dv.int) none (some 3)).length := hi
      have hm := cut_mem (List.getElem_mem hi')
      obtain ⟨v, _, hv⟩ := List.mem_map.mp hm
      refine ⟨.int v, by show stpL _ i M' = _; rw [stpL_at g2, List.getElem?_eq_getElem hi', hv], ?_⟩
      simp_wf
      refine wp_mulI (.inr (by decide)) ?_
      simp_wf
      refine wp_modI (by decide) ?_
      simp_wf
      exact ⟨_, _, rfl, g2, k2⟩
    · rintro env M' ⟨x3, z, rfl, g2, k2⟩
      refine ⟨by show stpL _ _ M' = _; rw [stpL_at g2]; simp, ?_⟩
      simp_wf
      exact ⟨⟨_, rfl⟩, k2⟩
end L54

/-! text G4_54 -/
namespace L54
open PySem L2 PySem.Spec PyProof.Rows Zl
theorem sp_integer {v : Int} {M : Mem} : Wp (m_is_integer [.int v] M) fun d M' => d = .bl true ∧ M' = M := by
  refine wp_fn rfl [some (.int v)] rfl ?_
  unfold b_is_integer
  simp_wf
  refine kc_of (c := true) rfl ?_
  simp_wf
  exact ⟨rfl, rfl⟩
theorem sp_between {v a b : Int} {M : Mem} (h1 : a ≤ v) (h2 : v ≤ b) : Wp (m_is_between [.int v, .int a, .int b] M) fun d M' => d = .bl true ∧ M' = M := by
  refine wp_fn rfl [some (.int v), some (.int a), some (.int b)] rfl ?_
  unfold b_is_between
  simp_wf
  refine sp_integer.go fun d M' ⟨e1, e2⟩ => ?_
  subst e1 e2
  simp_wf
  refine kc_of (decide_eq_true h1) ?_
  simp_wf
  exact ⟨by rw [decide_eq_true h2], rfl⟩
end L54

/-! text A0_54 -/
namespace L54
open PySem L2 PySem.Spec PyProof.Rows Zl
structure Row where
  v : Nat
  s : Nat
  hits : List Nat
  deriving DecidableEq
structure Tb where
  l : Nat
  rows : List Row
  deriving DecidableEq
def intsN (ns : List Nat) : List Dv := ns.map fun n => .int (n : Nat)
def rowD (r : Row) : Dv := .tup [.int (r.v : Nat), .int (r.s : Nat), .tup (intsN r.hits)]
def tabD (t : Tb) : Dv := .tup [.int (t.l : Nat), .tup (t.rows.map rowD)]
def OkR (l n : Nat) (r : Row) : Prop := r.v < l ∧ r.s < n ∧ r.hits.length = l ∧ ∀ h ∈ r.hits, h < n
structure OkT (t : Tb) : Prop where
  l1 : 1 ≤ t.l
  l4 : t.l ≤ 4
  r1 : 1 ≤ t.rows.length
  r64 : t.rows.length ≤ 64
  ok : ∀ r ∈ t.rows, OkR t.l t.rows.length r
theorem nats_of {s : Nat} : ∀ {xs ys : List Dv}, All2 (fun _ y => ∃ r : Nat, y = Dv.int r ∧ (r : Int) < s) xs ys → ∃ ns : List Nat, ys = intsN ns ∧ ns.length = xs.length ∧ ∀ n ∈ ns, n < s
  | _, _, .nil => ⟨[], rfl, rfl, fun n h => by simp at h⟩
  | _, _, .cons ⟨r, e, hr⟩ t => by
    obtain ⟨ns, e2, h2, h3⟩ := nats_of t
    refine ⟨r :: ns, by rw [e, e2]; rfl, by simp [h2], fun n hn => ?_⟩
    rcases List.mem_cons.mp hn with e | hn
    · omega
    · exact h3 n hn
end L54

/-! text A8_54 -/
namespace L54
open PySem L2 PySem.Spec PyProof.Rows Zl
theorem sp_row {l n : Nat} {r : Row} {M : Mem} (h : OkR l n r) (hl : l ≤ 100) : Wp (m_is_row [rowD r, .int (l : Nat), .int (n : Nat)] M) fun d M' => d = .bl true ∧ Kp NoW M M' := by
  obtain ⟨h1, h2, h3, h4⟩ := h
  unfold rowD
  refine wp_fn rfl [some (.tup [.int (r.v : Nat), .int (r.s : Nat), .tup (intsN r.hits)]), some (.int (l : Nat)), some (.int (n : Nat)), none] rfl ?_
  unfold b_is_row
  simp_wf
  refine ki_of (c := false) rfl ?_
  simp_wf
  refine ki_of (c := false) rfl ?_
  simp_wf
  refine (sp_between (by omega) (by omega)).go fun d M' ⟨e1, e2⟩ => ?_
  subst e1 e2
  simp_wf
  refine ki_of (c := false) rfl ?_
  simp_wf
  refine (sp_between (by omega) (by omega)).go fun d M' ⟨e1, e2⟩ => ?_
  subst e1 e2
  simp_wf
  refine ki_of (c := false) rfl ?_
  simp_wf
  refine ki_of (c := false) rfl ?_
  simp_wf
  refine ki_of (c := false) (by simp [intsN, h3]) ?_
  simp_wf
  refine wp_lcP (fun _ => .bl true) ?_
  simp_wf
  refine ⟨_, rfl, intsN r.hits, rfl, by simp [intsN, h3]; show _ ≤ 2 ^ 24; omega, fun _ _ _ _ => rfl, ?_, ?_⟩
  · intro x hx M1 k1
    obtain ⟨a, ha, rfl⟩ := List.mem_map.mp hx
    have := h4 a ha
    simp_wf
    refine (sp_between (by omega) (by omega)).go fun d M' ⟨e1, e2⟩ => ?_
    subst e1 e2
    exact ⟨rfl, .refl⟩
  · intro M1 k1 g1
    simp_wf
    refine wp_all g1 (bls_all (by simp)) ?_
    simp_wf
    refine ⟨?_, k1⟩
    simp
theorem sp_isPolicy {t : Tb} {M : Mem} (h : OkT t) : Wp (m_is_policy [tabD t] M) fun d M' => d = .bl true ∧ Kp NoW M M' := by
  obtain ⟨h1, h2, h3, h4, h5⟩ := h
  unfold tabD
  refine wp_fn rfl [some (.tup [.int (t.l : Nat), .tup (t.rows.map rowD)]), none, none, none] rfl ?_
  unfold b_is_policy c_MOST_LINES c_MOST_STATES
  simp_wf
  refine ki_of (c := false) rfl ?_
  simp_wf
  refine ki_of (c := false) rfl ?_
  simp_wf
  refine (sp_between (by omega) (by omega)).go fun d M' ⟨e1, e2⟩ => ?_
  subst e1 e2
  simp_wf
  refine ki_of (c := false) rfl ?_
  simp_wf
  refine ki_of (c := false) rfl ?_
  simp_wf
  refine kc_of (c := true) (decide_eq_true (by rw [List.length_map]; omega)) ?_
  simp_wf
  refine ki_of (c := false) (by rw [decide_eq_true (by rw [List.length_map]; omega)]; rfl) ?_
  simp_wf
  refine wp_lcP (fun _ => .bl true) ?_
  simp_wf
  refine ⟨_, rfl, t.rows.map rowD, rfl, by rw [List.length_map]; show _ ≤ 2 ^ 24; omega, fun _ _ _ _ => rfl, ?_, ?_⟩
  · intro x hx M1 k1
    obtain ⟨a, ha, rfl⟩ := List.mem_map.mp hx
    simp_wf
    have := h5 a ha
    rw [List.length_map]
    exact sp_row this (by omega)
  · intro M1 k1 g1
    simp_wf
    refine wp_all g1 (bls_all (by simp)) ?_
    simp_wf
    refine ⟨?_, k1⟩
    simp
end L54

/-! text D1_54 -/
namespace L54
open PySem L2 PySem.Spec PyProof.Rows Zl
/-! ## rules: dicts with nested keys, lists in step -/
theorem wq_dict1N {fk fv : FE} {env : En} {M : Mem} {q : QE} (h : kNew (.dct []) (fun n M0 => Wp (fk env M0) fun kd M1 => Wp (fv env M1) fun vd M2 => ∃ k, M2[n]? = some (.dct []) ∧ keyN kd = some k ∧ kWr n (.dcn (putN [] k kd vd)) (fun M' => q (.loc n) M') M2) M) : Wp (fDict1N fk fv env M) q := by
  have h' := h M.length (M ++ [.dct []]) rfl at_new (.app _) (by simp)
  unfold fDict1N
  refine wp_bnd (h'.go fun kd M1 w => wp_bnd (w.go ?_))
  rintro vd M2 ⟨k, h1, h2, h3⟩
  simp only [h1, h2]
  exact wp_ok (h3 _ (at_set h1) (.set fun _ => rfl) (by simp))
theorem wq_dict1K {fk fv : FE} {env : En} {M : Mem} {q : QE} (h : kNew (.dct []) (fun n M0 => Wp (fk env M0) fun kd M1 => Wp (fv env M1) fun vd M2 => ∃ k, M2[n]? = some (.dct []) ∧ keyD kd = some k ∧ kWr n (.dct (putDk [] k vd)) (fun M' => q (.loc n) M') M2) M) : Wp (fDict1K fk fv env M) q := by
  have h' := h M.length (M ++ [.dct []]) rfl at_new (.app _) (by simp)
  unfold fDict1K
  refine wp_bnd (h'.go fun kd M1 w => wp_bnd (w.go ?_))
  rintro vd M2 ⟨k, h1, h2, h3⟩
  simp only [h1, h2]
  exact wp_ok (h3 _ (at_set h1) (.set fun _ => rfl) (by simp))
theorem wp_inN {b : Bool} {d : Dv} {n : Nat} {kvs : List (NestedKey × Dv × Dv)} {k : NestedKey} {M : Mem} {q : QE} (hm : M[n]? = some (.dcn kvs)) (hk : keyN d = some k) (h : q (.bl (xor b (valN kvs k).isSome)) M) : Wp (inE b d (.loc n) M) q :=
  wp_ev (by unfold inE; simp only [hm, hk]) h
theorem wp_ixN {d v : Dv} {n : Nat} {kvs : List (NestedKey × Dv × Dv)} {k : NestedKey} {M : Mem} {q : QE} (hm : M[n]? = some (.dcn kvs)) (hk : keyN d = some k) (hv : valN kvs k = some v) (h : q v M) : Wp (ixE (.loc n) d M) q :=
  wp_ev (by unfold ixE; simp only [hm, hk, hv]) h
theorem k_setDn {i d : Dv} {n : Nat} {kvs : List (NestedKey × Dv × Dv)} {k : NestedKey} {M : Mem} {q : Mem → Prop} (hm : M[n]? = some (.dcn kvs)) (hk : keyN i = some k) (hl : kvs.length ≤ 1000000) (h : kWr n (.dcn (putN kvs k i d)) q M) : kSet (.loc n) i d q M :=
  ⟨_, by unfold setE; simp only [hm, hk, if_pos (size_lt (Nat.le_trans hl (by decide)))], h _ (at_set hm) (.set fun _ => rfl) (by simp)⟩
theorem keyD_tup {d : Dv} {k : NestedKey} (h : keyN d = some k) : keyD d = none := by
  cases d <;> first | rfl | cases h
theorem wp_in0 {b : Bool} {d : Dv} {n : Nat} {k : NestedKey} {M : Mem} {q : QE} (hm : M[n]? = some (.dct [])) (hk : keyN d = some k) (h : q (.bl (xor b false)) M) : Wp (inE b d (.loc n) M) q :=
  wp_ev (by unfold inE; simp only [hm, hk, keyD_tup hk]) (M' := M) (a := .bl (xor b false)) h
theorem k_set0 {i d : Dv} {n : Nat} {k : NestedKey} {M : Mem} {q : Mem → Prop} (hm : M[n]? = some (.dct [])) (hk : keyN i = some k) (h : kWr n (.dcn (putN [] k i d)) q M) : kSet (.loc n) i d q M :=
  ⟨_, by unfold setE; simp only [hm, hk, keyD_tup hk], h _ (at_set hm) (.set fun _ => rfl) (by simp)⟩
theorem wp_lenN {n : Nat} {kvs : List (NestedKey × Dv × Dv)} {M : Mem} {q : QE} (hm : M[n]? = some (.dcn kvs)) (h : q (.int (kvs.length : Nat)) M) : Wp (lenE [.loc n] M) q := wp_ev (by unfold lenE; simp only [hm]) h
theorem wp_lenK {n : Nat} {kvs : List (Key × Dv)} {M : Mem} {q : QE} (hm : M[n]? = some (.dct kvs)) (h : q (.int (kvs.length : Nat)) M) : Wp (lenE [.loc n] M) q := wp_ev (by unfold lenE; simp only [hm]) h
theorem wp_lenS {n : Nat} {xs : List Int} {M : Mem} {q : QE} (hm : M[n]? = some (.st xs)) (h : q (.int (xs.length : Nat)) M) : Wp (lenE [.loc n] M) q := wp_ev (by unfold lenE; simp only [hm]) h
theorem wp_inK {b : Bool} {d : Dv} {n : Nat} {kvs : List (Key × Dv)} {k : Key} {M : Mem} {q : QE} (hm : M[n]? = some (.dct kvs)) (hk : keyD d = some k) (h : q (.bl (xor b (valD kvs k).isSome)) M) : Wp (inE b d (.loc n) M) q :=
  wp_ev (by unfold inE; simp only [hm, hk]) h
theorem wp_ixK {d v : Dv} {n : Nat} {kvs : List (Key × Dv)} {k : Key} {M : Mem} {q : QE} (hm : M[n]? = some (.dct kvs)) (hk : keyD d = some k) (hv : valD kvs k = some v) (h : q v M) : Wp (ixE (.loc n) d M) q :=
  wp_ev (by unfold ixE; simp only [hm, hk, hv]) h
theorem ints_of : ∀ ns : List Nat, intsOf (intsN ns) = some (ns.map Int.ofNat)
  | [] => rfl
  | n :: ns => by
    show (match intsOf (intsN ns) with | some is => some ((n : Int) :: is) | none => none) = _
    rw [ints_of ns]; rfl
theorem wq_set {n : Nat} {ns : List Nat} {M : Mem} {q : QE} (hm : M[n]? = some (.lst (intsN ns))) (hl : ns.length < 4000) (h : kNew (.st (dedupI (ns.map Int.ofNat))) (fun n M2 => q (.loc n) M2) M) : Wp (setOfD [.loc n] M) q := by
  refine wp_ev (a := .loc M.length) (M' := M ++ [.st (dedupI (ns.map Int.ofNat))]) ?_ (h _ _ rfl at_new (.app _) (by simp))
  unfold setOfD
  simp only [hm, ints_of]
  rw [if_pos (by simpa using hl)]
/-! two lists in step -/
def stpZL (m n : Nat) : Stp := fun i M => match M[m]?, M[n]? with
  | some (.lst xs), some (.lst ys) => some (zipAt xs ys i)
  | _, _ => none
theorem k_zipL {m n : Nat} {xs ys : List Dv} {M : Mem} {qi : Src → Mem → Prop} (hm : M[m]? = some (.lst xs)) (hn : M[n]? = some (.lst ys)) (h : qi ⟨min xs.length ys.length, stpZL m n⟩ M) : kZip qi (.loc m) (.loc n) M :=
  ⟨⟨min xs.length ys.length, stpZL m n⟩, by unfold srcZ; simp only [hm, hn]; rfl, h⟩
theorem stpZL_at {m n i : Nat} {xs ys : List Dv} {M : Mem} (hm : M[m]? = some (.lst xs)) (hn : M[n]? = some (.lst ys)) : stpZL m n i M = some (zipAt xs ys i) := by unfold stpZL; rw [hm, hn]
theorem k_forZL {env : En} {M : Mem} {g : FG} {f : FS} {Q : QS} {m n : Nat} {xs ys : List Dv} {I : Nat → En → Mem → Prop} (hl : xs.length = ys.length) (hm : ∀ i env M, I i env M → M[m]? = some (.lst xs) ∧ M[n]? = some (.lst ys)) (h0 : I 0 env M)
    (h1 : ∀ i d e env M, xs[i]? = some d → ys[i]? = some e → I i env M → Wp (g (.pr [d, e]) env M) fun e1 M1 => Wp (f e1 M1) (kLoop (I (i + 1)) Q)) (h2 : ∀ env M, I xs.length env M → Q (.nx env) M) : kFor I g f env Q ⟨min xs.length ys.length, stpZL m n⟩ M := by
  have e0 : min xs.length ys.length = xs.length := by omega
  refine ⟨h0, fun i env M hi hh => ?_, fun env M hh => ?_⟩
  · have hi' : i < xs.length := by have : i < min xs.length ys.length := hi; omega
    obtain ⟨a, b⟩ := hm i env M hh
    refine ⟨_, (stpZL_at a b).trans (congrArg some (zip_at (List.getElem?_eq_getElem hi') (List.getElem?_eq_getElem (by omega)))), h1 i _ _ env M (List.getElem?_eq_getElem hi') (List.getElem?_eq_getElem (by omega)) hh⟩
  · obtain ⟨a, b⟩ := hm _ env M hh
    exact ⟨(stpZL_at a b).trans (congrArg some zip_end), h2 env M (by rw [← e0]; exact hh)⟩
/-! ## numbering -/
section
variable {α : Type} [DecidableEq α]
def ixOf (x : α) : List α → Nat
  | [] => 0
  | y :: ys => if y = x then 0 else ixOf x ys + 1
theorem ix_new {x : α} : ∀ {xs : List α}, x ∉ xs → ixOf x (xs ++ [x]) = xs.length
  | [], _ => by show (if x = x then 0 else _) = 0; rw [if_pos rfl]
  | y :: ys, h => by
    have h1 : ¬ y = x := fun e => h (by simp [e])
    show (if y = x then 0 else ixOf x (ys ++ [x]) + 1) = _
    rw [if_neg h1, ix_new fun m => h (List.mem_cons_of_mem _ m)]; rfl
def placeOf (o : List α) (s : α) : Nat × List α := if s ∈ o then (ixOf s o, o) else (o.length, o ++ [s])
def places : List α → List α → List Nat × List α
  | o, [] => ([], o)
  | o, s :: ss => ((placeOf o s).1 :: (places (placeOf o s).2 ss).1, (places (placeOf o s).2 ss).2)
theorem places_len : ∀ (o ss : List α), (places o ss).1.length = ss.length
  | _, [] => rfl
  | o, s :: ss => by show (places (placeOf o s).2 ss).1.length + 1 = _; rw [places_len]; rfl
theorem places_app : ∀ (o xs ys : List α), places o (xs ++ ys) = ((places o xs).1 ++ (places (places o xs).2 ys).1, (places (places o xs).2 ys).2)
  | _, [], _ => rfl
  | o, x :: xs, ys => by
    show ((placeOf o x).1 :: (places (placeOf o x).2 (xs ++ ys)).1, (places (placeOf o x).2 (xs ++ ys)).2) = _
    rw [places_app]; rfl
theorem place_len (o : List α) (s : α) : (placeOf o s).2.length ≤ o.length + 1 := by
  unfold placeOf
  split <;> simp
theorem places_more : ∀ (o ss : List α), (places o ss).2.length ≤ o.length + ss.length
  | _, [] => Nat.le_refl _
  | o, s :: ss => by
    have h1 := places_more (placeOf o s).2 ss
    have h2 := place_len o s
    show (places (placeOf o s).2 ss).2.length ≤ _
    rw [List.length_cons]; omega
variable (κ : α → NestedKey) (δ : α → Dv)
def enN (xs : List α) : List (NestedKey × Dv × Dv) := xs.zipIdx.map fun p => (κ p.1, δ p.1, .int (p.2 : Nat))
variable {κ δ}
theorem val_cons {kv : NestedKey × Dv × Dv} {kvs : List (NestedKey × Dv × Dv)} {k : NestedKey} : valN (kv :: kvs) k = if kv.1 = k then some kv.2.2 else valN kvs k := by
  unfold valN
  rw [List.find?_cons]
  by_cases h : kv.1 = k
  · rw [if_pos h]; simp [h]
  · rw [if_neg h]; simp [h]
theorem val_en (inj : ∀ a b, κ a = κ b → a = b) (x : α) : ∀ (xs : List α) (o : Nat), valN ((xs.zipIdx o).map fun p => (κ p.1, δ p.1, .int (p.2 : Nat))) (κ x) = if x ∈ xs then some (.int ((o + ixOf x xs : Nat) : Int)) else none
  | [], o => rfl
  | y :: ys, o => by
    rw [List.zipIdx_cons, List.map_cons, val_cons, val_en inj x ys (o + 1)]
    by_cases h : y = x
    · subst h
      rw [if_pos rfl, if_pos (List.mem_cons_self ..)]
      simp [ixOf]
    · rw [if_neg fun e => h (inj _ _ e)]
      have h' : ¬ x = y := fun e => h e.symm
      by_cases hm : x ∈ ys
      · rw [if_pos hm, if_pos (List.mem_cons_of_mem _ hm)]
        have hb : ixOf x (y :: ys) = ixOf x ys + 1 := by show (if y = x then 0 else _) = _; rw [if_neg h]
        rw [hb]
        congr 3
        omega
      · rw [if_neg hm, if_neg (by simp [h', hm])]
theorem val_enN (inj : ∀ a b, κ a = κ b → a = b) (x : α) (xs : List α) : valN (enN κ δ xs) (κ x) = if x ∈ xs then some (.int ((ixOf x xs : Nat) : Int)) else none := by
  have := val_en (δ := δ) inj x xs 0
  rw [Nat.zero_add] at this
  exact this
theorem put_enN (inj : ∀ a b, κ a = κ b → a = b) {x : α} {xs : List α} (h : x ∉ xs) : putN (enN κ δ xs) (κ x) (δ x) (.int (xs.length : Nat)) = enN κ δ (xs ++ [x]) := by
  unfold putN
  rw [val_enN inj, if_neg h]
  show enN κ δ xs ++ _ = _
  unfold enN
  rw [List.zipIdx_append, List.map_append]
  simp
theorem en_len {xs : List α} : (enN κ δ xs).length = xs.length := by simp [enN]
end
end L54

/-! text D2_54 -/
namespace L54
open PySem L2 PySem.Spec PyProof.Rows Zl
/-! ## stages -/
abbrev Stg := Nat × List Nat
def stgD (s : Stg) : Dv := .tup [.int (s.1 : Nat), .tup (intsN s.2)]
def stgK (s : Stg) : NestedKey := .tup [.num (s.1 : Nat), .tup (s.2.map fun n => .num (n : Nat))]
theorem nk_ints {n : Nat} : ∀ ns : List Nat, nkL (nkN n) (intsN ns) = some (ns.map fun n => .num (n : Nat))
  | [] => rfl
  | p :: st => by
    show (match nkN n (.int (p : Nat)) with | some k => (match nkL (nkN n) (intsN st) with | some ks => some (k :: ks) | none => none) | none => none) = _
    rw [nk_ints st]
    cases n <;> rfl
theorem key_stg (s : Stg) : keyN (stgD s) = some (stgK s) := by
  show (match nkL (nkN 7) [.int (s.1 : Nat), .tup (intsN s.2)] with | some ks => some (NestedKey.tup ks) | none => none) = _
  have h2 : nkN 7 (.tup (intsN s.2)) = some (.tup (s.2.map fun n => .num (n : Nat))) := by
    show (match nkL (nkN 6) (intsN s.2) with | some ks => some (NestedKey.tup ks) | none => none) = _
    rw [nk_ints]
  unfold nkL nkL
  simp only [h2]
  rfl
theorem map_inj {α β : Type} {f : α → β} (hf : ∀ a b, f a = f b → a = b) : ∀ {xs ys : List α}, xs.map f = ys.map f → xs = ys
  | [], [], _ => rfl
  | [], _ :: _, h => by cases h
  | _ :: _, [], h => by cases h
  | x :: xs, y :: ys, h => by
    simp only [List.map_cons, List.cons.injEq] at h
    rw [hf _ _ h.1, map_inj hf h.2]
theorem num_inj (a b : Nat) (h : NestedKey.num (a : Nat) = NestedKey.num (b : Nat)) : a = b := Int.ofNat_inj.mp (NestedKey.num.inj h)
theorem stg_inj (a b : Stg) (h : stgK a = stgK b) : a = b := by
  unfold stgK at h
  simp only [NestedKey.tup.injEq, List.cons.injEq, and_true] at h
  exact Prod.ext (num_inj _ _ h.1) (map_inj num_inj h.2)
def rwOf (t : Tb) (i : Nat) : Row := t.rows.getD i ⟨0, 0, []⟩
theorem rw_at {t : Tb} {i : Nat} (h : i < t.rows.length) : t.rows[i]? = some (rwOf t i) := by
  unfold rwOf
  rw [List.getD_eq_getElem?_getD, List.getElem?_eq_getElem h]; rfl
theorem ints_at {ns : List Nat} {i n : Nat} (h : ns[i]? = some n) : (intsN ns)[i]? = some (.int (n : Nat)) := by unfold intsN; rw [List.getElem?_map, h]; rfl
def afterMiss (t : Tb) (s : Stg) : Nat × Stg := if (rwOf t s.1).v ∈ s.2 then (s.2.idxOf (rwOf t s.1).v, ((rwOf t s.1).s, s.2)) else (s.2.length, ((rwOf t s.1).s, s.2 ++ [(rwOf t s.1).v]))
def afterHits (t : Tb) (s : Stg) : List Stg := s.2.map fun l => ((rwOf t s.1).hits.getD l 0, s.2)
theorem any_ints {v : Nat} : ∀ {ns : List Nat}, ((intsN ns).any fun y => eqF y (.int (v : Nat))) = decide (v ∈ ns)
  | [] => rfl
  | n :: ns => by
    show (eqF (.int (n : Nat)) (.int (v : Nat)) || (intsN ns).any fun y => eqF y (.int (v : Nat))) = _
    rw [any_ints]
    have e : eqF (.int (n : Nat)) (.int (v : Nat)) = decide (v = n) := by
      show decide ((n : Int) = (v : Int)) = _
      exact decide_eq_decide.mpr (by omega)
    rw [e]
    simp
theorem idx_ints {v : Nat} : ∀ {ns : List Nat}, v ∈ ns → idxB (fun y => eqF y (.int (v : Nat))) (intsN ns) = some (ns.idxOf v)
  | [], h => by simp at h
  | n :: ns, h => by
    have e : eqF (.int (n : Nat)) (.int (v : Nat)) = decide (n = v) := by
      show decide ((n : Int) = (v : Int)) = _
      exact decide_eq_decide.mpr (by omega)
    show idxB (fun y => eqF y (.int (v : Nat))) (.int (n : Nat) :: intsN ns) = _
    unfold idxB
    simp only [e]
    by_cases hn : n = v
    · subst hn
      simp
    · have hb : (n == v) = false := by simpa using hn
      have h' : v ∈ ns := by
        rcases List.mem_cons.mp h with e | h
        · exact absurd e.symm hn
        · exact h
      rw [idx_ints h', List.idxOf_cons, hb]
      simp [hn]
theorem flat_ints {ns : List Nat} : (intsN ns).all flatD = true := by
  unfold intsN
  rw [List.all_map]
  exact List.all_eq_true.mpr fun _ _ => rfl
theorem wp_star {fa : FE} {fr : FA} {env : En} {M : Mem} {q : List Dv → Mem → Prop} (h : Wp (fa env M) fun d M1 => ∃ xs, d = .tup xs ∧ Wp (fr env M1) fun ds M2 => q (xs ++ ds) M2) : Wp (fStar fa fr env M) q := by
  refine wp_bnd (h.go ?_)
  rintro d M1 ⟨xs, rfl, w⟩
  exact wp_bnd (w.go fun ds M2 h => wp_ok h)
theorem noList {h : FM} {env : En} {M : Mem} {fa : FE} {fr : FA} {xs : List Dv} (e : fa env M = some (.tup xs, M)) : fM "list" h fa fr env M = none := by
  unfold fM bnd
  rw [e]
  rfl
theorem sp_afterMiss {t : Tb} {s : Stg} {M : Mem} (hs : s.1 < t.rows.length) (hl : s.2.length ≤ 100) : Wp (m_after_miss [tabD t, stgD s] M) fun d M' => d = .tup [.int ((afterMiss t s).1 : Nat), stgD (afterMiss t s).2] ∧ M' = M := by
  have hr : (t.rows.map rowD)[s.1]? = some (.tup [.int ((rwOf t s.1).v : Nat), .int ((rwOf t s.1).s : Nat), .tup (intsN (rwOf t s.1).hits)]) := by rw [List.getElem?_map, rw_at hs]; rfl
  refine wp_fn rfl [some (.tup [.int (t.l : Nat), .tup (t.rows.map rowD)]), some (.tup [.int (s.1 : Nat), .tup (intsN s.2)]), none, none, none, none, none] rfl ?_
  unfold b_after_miss
  array_get_dec
  refine wp_inT (by unfold inE inD; simp only [flat_ints]; rfl) ?_
  rw [any_ints]
  array_get_dec
  by_cases h : (rwOf t s.1).v ∈ s.2
  · refine ki_of (c := true) (by simp [h]) ?_
    array_get_dec
    refine wp_or2 (noList rfl) ?_
    array_get_dec
    refine wp_ev (a := .int ((s.2.idxOf (rwOf t s.1).v : Nat) : Int)) (M' := M) ?_ ?_
    · unfold tindexD
      simp only [flat_ints, idx_ints h]; rfl
    array_get_dec
    refine ⟨?_, rfl⟩
    unfold afterMiss
    rw [if_pos h]; rfl
  · refine ki_of (c := false) (by simp [h]) ?_
    array_get_dec
    refine wp_star ?_
    array_get_dec
    refine ⟨_, rfl, ?_⟩
    array_get_dec
    refine ⟨size_le (by simp [intsN]; omega), ?_⟩
    array_get_dec
    refine ⟨?_, rfl⟩
    unfold afterMiss
    rw [if_neg h]
    simp [stgD, intsN]
theorem sp_afterHits {t : Tb} {s : Stg} {M : Mem} (ht : OkT t) (hs : s.1 < t.rows.length) (hl : s.2.length ≤ 100) (hx : ∀ x ∈ s.2, x < t.l) : Wp (m_after_hits [tabD t, stgD s] M) fun d M' => ∃ n, d = .loc n ∧ n = M.length ∧ M'[n]? = some (.lst ((afterHits t s).map stgD)) ∧ Kp NoW M M' := by
  have hr : (t.rows.map rowD)[s.1]? = some (.tup [.int ((rwOf t s.1).v : Nat), .int ((rwOf t s.1).s : Nat), .tup (intsN (rwOf t s.1).hits)]) := by rw [List.getElem?_map, rw_at hs]; rfl
  have hh := (ht.ok _ (List.mem_of_getElem? (rw_at hs))).2.2.1
  refine wp_fn rfl [some (.tup [.int (t.l : Nat), .tup (t.rows.map rowD)]), some (.tup [.int (s.1 : Nat), .tup (intsN s.2)]), none, none, none, none] rfl ?_
  unfold b_after_hits
  array_get_dec
  refine wq_map (fun x => match x with | .int i => stgD ((rwOf t s.1).hits.getD i.toNat 0, s.2) | _ => .non) ?_
  array_get_dec
  refine k_mapT (size_le (by simp [intsN]; omega)) ?_ ?_
  · intro y hy M1 k1
    obtain ⟨x, hx', rfl⟩ := List.mem_map.mp hy
    have := hx x hx'
    have e : (intsN (rwOf t s.1).hits)[x]? = some (.int (((rwOf t s.1).hits.getD x 0 : Nat) : Int)) := by
      refine ints_at ?_
      rw [List.getD_eq_getElem?_getD, List.getElem?_eq_getElem (by omega)]; rfl
    array_get_dec
    exact ⟨rfl, .refl⟩
  · intro n M1 e1 l1 k1 g1
    array_get_dec
    refine ⟨n, rfl, e1, ?_, k1⟩
    rw [g1]
    unfold afterHits intsN
    rw [List.map_map, List.map_map]
    rfl
end L54

/-! text D3_54 -/
namespace L54
open PySem L2 PySem.Spec PyProof.Rows Zl
/-! ## the stages to which histories lead -/
abbrev SRow := Nat × Nat × List Nat
def srD (r : SRow) (n : Nat) : Dv := .tup [.int (r.1 : Nat), .int (r.2.1 : Nat), .loc n]
structure StAt (c o p r : Nat) (ord : List Stg) (rows : List SRow) (ls : List Nat) (M : Mem) : Prop where
  hc : M[c]? = some (.ins 0 [("order", .loc o), ("places", .loc p), ("rows", .loc r)])
  ho : M[o]? = some (.lst (ord.map stgD))
  hp : M[p]? = some (.dcn (enN stgK stgD ord))
  hr : M[r]? = some (.lst (List.zipWith srD rows ls))
  hl : ∀ (i n : Nat) w, ls[i]? = some n → rows[i]? = some w → M[n]? = some (.lst (intsN w.2.2))
  hn : ls.length = rows.length
  co : c < o
  op : o < p
  pr : p < r
  rl : ∀ n ∈ ls, r < n
section
variable {c o p r : Nat} {ord : List Stg} {rows : List SRow} {ls : List Nat} {M M' : Mem}
theorem StAt.kp {W : Nat → Prop} (h : StAt c o p r ord rows ls M) (k : Kp W M M') (hW : ∀ n, W n → n ≠ c ∧ n ≠ o ∧ n ≠ p ∧ n ≠ r ∧ n ∉ ls) : StAt c o p r ord rows ls M' :=
  ⟨k.at h.hc fun w => (hW _ w).1 rfl, k.at h.ho fun w => (hW _ w).2.1 rfl, k.at h.hp fun w => (hW _ w).2.2.1 rfl, k.at h.hr fun w => (hW _ w).2.2.2.1 rfl, fun i n w h1 h2 => k.at (h.hl i n w h1 h2) fun z => (hW _ z).2.2.2.2 (List.mem_of_getElem? h1), h.hn, h.co, h.op, h.pr, h.rl⟩
theorem StAt.kpN (h : StAt c o p r ord rows ls M) (k : Kp NoW M M') : StAt c o p r ord rows ls M' := h.kp k fun _ w => w.elim
abbrev OP (o p : Nat) : Nat → Prop := fun n => n = o ∨ n = p
theorem sp_placeOf {s : Stg} (h : StAt c o p r ord rows ls M) (hl : ord.length ≤ 100000) : Wp (m_Stages_place_of [.loc c, stgD s] M) fun d M' => d = .int ((placeOf ord s).1 : Nat) ∧ StAt c o p r (placeOf ord s).2 rows ls M' ∧ Kp (OP o p) M M' := by
  have hc := h.hc
  have ho := h.ho
  have hp := h.hp
  have h1 := h.co
  have h2 := h.op
  have h3 := h.pr
  have hrl := h.rl
  have hv := val_enN (δ := stgD) stg_inj s ord
  have hk := key_stg s
  refine wp_fn rfl [some (.loc c), some (stgD s)] rfl ?_
  unfold b_Stages_place_of
  array_get_dec
  refine wp_inN hp hk ?_
  array_get_dec
  by_cases hs : s ∈ ord
  · rw [if_pos hs] at hv
    refine ki_of (c := false) (by rw [hv]; rfl) ?_
    array_get_dec
    refine wp_ixN hp hk hv ?_
    array_get_dec
    have e : placeOf ord s = (ixOf s ord, ord) := by unfold placeOf; rw [if_pos hs]
    rw [e]
    exact ⟨rfl, h, .refl⟩
  · rw [if_neg hs] at hv
    refine ki_of (c := true) (by rw [hv]; rfl) ?_
    array_get_dec
    refine k_setDn hp hk (by rw [en_len]; omega) ?_
    array_get_dec
    rename_i M1 g1 k1 l1
    have hc1 := k1.at hc (by omega)
    have ho1 := k1.at ho (by omega)
    array_get_dec
    refine wq_append ho1 (size_lt (by rw [List.length_map]; omega)) ?_
    array_get_dec
    rename_i M2 g2 k2 l2
    have hc2 := k2.at hc1 (by omega)
    have g12 := k2.at g1 (by omega)
    array_get_dec
    rw [List.length_map, put_enN stg_inj hs] at g12
    have hv2 := val_enN (δ := stgD) stg_inj s (ord ++ [s])
    rw [if_pos (by simp)] at hv2
    refine wp_ixN g12 hk hv2 ?_
    array_get_dec
    have e : placeOf ord s = (ord.length, ord ++ [s]) := by unfold placeOf; rw [if_neg hs]
    have e2 : ixOf s (ord ++ [s]) = ord.length := ix_new hs
    rw [e, e2]
    have kk : Kp (OP o p) M M2 := ((Kp.refl (W := OP o p)).trans k1 fun n _ e => .inr e).trans k2 fun n _ e => .inl e
    refine ⟨rfl, ⟨hc2, by rw [g2, List.map_append]; rfl, g12, kk.at h.hr (by unfold OP; omega), fun i n w a b => kk.at (h.hl i n w a b) ?_, h.hn, h1, h2, h3, hrl⟩, kk⟩
    have := hrl n (List.mem_of_getElem? a)
    unfold OP; omega
end
end L54

/-! text D4_54 -/
namespace L54
open PySem L2 PySem.Spec PyProof.Rows Zl
def stgOk (t : Tb) (s : Stg) : Bool := decide (s.1 < t.rows.length) && decide (s.2.length ≤ 100) && s.2.all fun x => decide (x < t.l)
def stagesF (t : Tb) : Nat → List Stg → List SRow → Option (List Stg × List SRow)
  | 0, _, _ => none
  | f + 1, o, rs => match o[rs.length]? with
    | none => some (o, rs)
    | some s => if stgOk t s && decide (o.length ≤ 3000) then
        stagesF t f (places (placeOf o (afterMiss t s).2).2 (afterHits t s)).2 (rs ++ [((afterMiss t s).1, (placeOf o (afterMiss t s).2).1, (places (placeOf o (afterMiss t s).2).2 (afterHits t s)).1)])
      else none
section
variable {c o p r : Nat} {ord : List Stg} {rows : List SRow} {ls : List Nat} {M M' : Mem}
theorem StAt.lt (h : StAt c o p r ord rows ls M) : r < M.length ∧ ∀ n ∈ ls, n < M.length := by
  refine ⟨lt_of h.hr, fun n hn => ?_⟩
  obtain ⟨i, hi, rfl⟩ := List.mem_iff_getElem.mp hn
  have hi2 : i < rows.length := by have := h.hn; omega
  exact lt_of (h.hl i _ _ (List.getElem?_eq_getElem hi) (List.getElem?_eq_getElem hi2))
theorem take_succ_of {α : Type} {xs : List α} {i : Nat} {x : α} (h : xs[i]? = some x) : xs.take (i + 1) = xs.take i ++ [x] := by
  rw [List.take_add_one, h]; rfl
/-- [self.place_of(goal) for goal in goals] -/
theorem lc_place {env : En} {gs : List Stg} {fg : FE} (he : env[0]? = some (some (.loc c))) (h6 : 6 < env.length) (h : StAt c o p r ord rows ls M) (hl : ord.length + gs.length ≤ 50000) {q : QE}
    (hg : Wp (fg env M) fun d M1 => ∃ h, d = .loc h ∧ h = M.length ∧ M1[h]? = some (.lst (gs.map stgD)) ∧ Kp NoW M M1)
    (hq : ∀ n M2, M.length < n → M2[n]? = some (.lst (intsN (places ord gs).1)) → StAt c o p r (places ord gs).2 rows ls M2 → Kp (OP o p) M M2 → q (.loc n) M2) :
    Wp (fComp (fSrc fg) [6] (gN 6) fYes (fMeth 0 "place_of" 2 m_Stages_place_of (fV 0) (fCons (fV 6) fNil)) env M) q := by
  have z := h.lt
  have h1 := h.co
  have h2 := h.op
  have h3 := h.pr
  refine wp_lcI (fun n i acc M' => M.length < n ∧ i ≤ gs.length ∧ acc = intsN (places ord (gs.take i)).1 ∧ StAt c o p r (places ord (gs.take i)).2 rows ls M' ∧ M'[n]? = some (.lst acc) ∧ M'[M.length]? = some (.lst (gs.map stgD)) ∧ Kp (OP o p) M M') ?_
  refine wq_src (hg.go ?_)
  rintro _ M1 ⟨_, rfl, rfl, g1, k1⟩
  have l1 := lt_of g1
  refine k_srcL g1 ⟨fun i acc M' hh => hh.2.2.2.2.1, ⟨l1, Nat.zero_le _, rfl, (h.kpN k1).kpN (.app _), at_new, at_app g1, ((Kp.refl (W := OP o p)).trN k1).trN (.app _)⟩, ?_, ?_⟩
  · rintro i acc M2 hi ⟨a0, a1, a2, a3, a4, a5, a6⟩
    have hi' : i < gs.length := by have : i < (gs.map stgD).length := hi; simpa using this
    have ei : gs[i]? = some gs[i] := List.getElem?_eq_getElem hi'
    refine ⟨stgD gs[i], by show stpL M.length i M2 = _; rw [stpL_at a5, List.getElem?_map, ei]; rfl, ?_⟩
    have hc2 := a3.hc
    have e0 : ((wipeE env [6]).set 6 (some (stgD gs[i])))[0]? = some (some (.loc c)) := by
      rw [List.getElem?_set_ne (by omega)]
      show (env.set 6 none)[0]? = _
      rw [List.getElem?_set_ne (by omega)]; exact he
    have e6 : ((wipeE env [6]).set 6 (some (stgD gs[i])))[6]? = some (some (stgD gs[i])) := by
      rw [List.getElem?_set_self]
      show 6 < (env.set 6 none).length
      rw [List.length_set]; exact h6
    refine wq_meth' (wp_var e0 (k_ins hc2 rfl ?_))
    refine wp_cons (wp_var e6 (wp_nil (k_len rfl (k_pos ?_))))
    have hm := places_more ord (gs.take i)
    have ht : (gs.take i).length ≤ gs.length := by simp; omega
    refine (sp_placeOf a3 (by omega)).go ?_
    rintro _ M3 ⟨rfl, b1, b2⟩
    have na : ¬ OP o p M1.length := by have := k1.1; unfold OP; omega
    have nb : ¬ OP o p M.length := by unfold OP; omega
    have k3 : Kp (OP o p) M M3 := a6.tr b2
    have st : places ord (gs.take (i + 1)) = ((places ord (gs.take i)).1 ++ [(placeOf (places ord (gs.take i)).2 gs[i]).1], (placeOf (places ord (gs.take i)).2 gs[i]).2) := by
      rw [take_succ_of ei, places_app]; rfl
    have nc : ∀ n, At M1.length n → n ≠ c ∧ n ≠ o ∧ n ≠ p ∧ n ≠ r ∧ n ∉ ls := by
      intro n e
      have hk := k1.1
      have e' : n = M1.length := e
      refine ⟨by omega, by omega, by omega, by omega, fun hn => ?_⟩
      have := z.2 n hn
      omega
    refine ⟨acc, b2.at a4 na, size_lt (by rw [a2]; unfold intsN; rw [List.length_map, places_len]; omega), a0, by omega, ?_, ?_, at_set (b2.at a4 na), at_set_ne (b2.at a5 nb) (by omega), k3.trans (Kp.set (W := At M1.length) fun _ => rfl) ?_⟩
    · rw [st, a2]; unfold intsN; rw [List.map_append]; rfl
    · rw [st]; exact b1.kp (Kp.set (W := At M1.length) fun _ => rfl) nc
    · intro n hn e
      have hk := k1.1
      have e' : n = M1.length := e
      omega
  · rintro acc M2 ⟨a0, a1, a2, a3, a4, a5, a6⟩
    have e : gs.take (gs.map stgD).length = gs := by rw [List.length_map, List.take_length]
    refine ⟨by show stpL M.length (gs.map stgD).length M2 = _; rw [stpL_at a5, List.getElem?_eq_none (Nat.le_refl _)], hq _ M2 a0 ?_ ?_ a6⟩
    · have a2' : acc = intsN (places ord (gs.take (gs.map stgD).length)).1 := a2
      rw [e] at a2'
      rw [a4, a2']
    · have a3' : StAt c o p r (places ord (gs.take (gs.map stgD).length)).2 rows ls M2 := a3
      rw [e] at a3'
      exact a3'
end
end L54

/-! text D5_54 -/
namespace L54
open PySem L2 PySem.Spec PyProof.Rows Zl
theorem zip_len {rows : List SRow} {ls : List Nat} (h : ls.length = rows.length) : (List.zipWith srD rows ls).length = rows.length := by rw [List.length_zipWith]; omega
theorem stg_get {t : Tb} {f : Nat} {ord : List Stg} {rows : List SRow} {R : List Stg × List SRow} (h : stagesF t (f + 1) ord rows = some R) (hl : rows.length < ord.length) : ∃ s, ord[rows.length]? = some s ∧ s.1 < t.rows.length ∧ s.2.length ≤ 100 ∧ (∀ x ∈ s.2, x < t.l) ∧ ord.length ≤ 3000 ∧
    stagesF t f (places (placeOf ord (afterMiss t s).2).2 (afterHits t s)).2 (rows ++ [((afterMiss t s).1, (placeOf ord (afterMiss t s).2).1, (places (placeOf ord (afterMiss t s).2).2 (afterHits t s)).1)]) = some R := by
  have e : ord[rows.length]? = some ord[rows.length] := List.getElem?_eq_getElem hl
  unfold stagesF at h
  rw [e] at h
  simp only at h
  split at h
  · rename_i hc
    unfold stgOk at hc
    simp only [Bool.and_eq_true, decide_eq_true_eq, List.all_eq_true] at hc
    exact ⟨_, e, hc.1.1.1, hc.1.1.2, hc.1.2, hc.2, h⟩
  · cases h
theorem stg_end {t : Tb} {f : Nat} {ord : List Stg} {rows : List SRow} {R : List Stg × List SRow} (h : stagesF t f ord rows = some R) (hl : ¬ rows.length < ord.length) : R = (ord, rows) := by
  cases f with
  | zero => cases h
  | succ f =>
    unfold stagesF at h
    rw [List.getElem?_eq_none (by omega)] at h
    cases h; rfl
theorem sp_init {t : Tb} {c f : Nat} {M : Mem} {O : List Stg} {R : List SRow} (ht : OkT t) (hc : M[c]? = some (.ins 0 [])) (hf : f ≤ 5000) (hF : stagesF t f [(0, [])] [] = some (O, R)) :
    Wp (m_Stages_init [.loc c, tabD t] M) fun d M' => d = .non ∧ (∃ o p r ls, StAt c o p r O R ls M') ∧ Kp (At c) M M' := by
  have z := lt_of hc
  refine wp_fn rfl [some (.loc c), some (tabD t), none, none, none, none, none] rfl ?_
  unfold b_Stages_init
  array_get_dec
  rename_i o M1 e1 g1 k1 l1 M2 g2 k2 l2
  refine wq_dict1N ?_
  array_get_dec
  rename_i p M3 e3 g3 k3 l3
  refine ⟨_, g3, key_stg (0, []), ?_⟩
  array_get_dec
  rename_i M4 g4 k4 l4 M5 g5 k5 l5 r M6 e6 g6 k6 l6 M7 g7 k7 l7
  have o7 := k7.at (k6.at (k5.at (k4.at (k3.at (k2.at g1 (by omega)) id) (by omega)) (by omega)) id) (by omega)
  have p7 := k7.at (k6.at (k5.at g4 (by omega)) id) (by omega)
  have r7 := k7.at g6 (by omega)
  have st7 : StAt c o p r [(0, [])] [] [] M7 := ⟨g7, o7, p7, r7, fun i n w h => by simp at h, rfl, by omega, by omega, by omega, fun n h => by simp at h⟩
  have kk7 : Kp (At c) M M7 := by
    refine (((((((Kp.refl (W := At c)).trN k1).trans k2 fun n _ e => e).trN k3).trans k4 ?_).trans k5 fun n _ e => e).trN k6).trans k7 fun n _ e => e
    intro n hn e
    have e' : n = p := e
    omega
  refine wp_whileI (fun m env M' => ∃ (x2 x3 x4 x5 x6 : Option Dv) (ord : List Stg) (rows : List SRow) (ls : List Nat), env = [some (.loc c), some (tabD t), x2, x3, x4, x5, x6] ∧ StAt c o p r ord rows ls M' ∧ stagesF t m ord rows = some (O, R) ∧ Kp (At c) M M') ?_ 1000000 f _ M7 (by omega) ⟨none, none, none, none, none, _, _, _, rfl, st7, hF, kk7⟩
  rintro m env M8 ⟨x2, x3, x4, x5, x6, ord, rows, ls, rfl, st, hm, kk⟩
  have hc8 := st.hc
  have ho8 := st.ho
  have hr8 := st.hr
  have hM8 := kk.1
  have hzl := zip_len st.hn
  array_get_dec
  by_cases hl : rows.length < ord.length
  · rw [decide_eq_true (by rw [hzl, List.length_map]; exact_mod_cast hl)]
    refine (show Wp _ _ from ?_)
    cases m with
    | zero => cases hm
    | succ m =>
      obtain ⟨s, es, s1, s2, s3, s4, hm'⟩ := stg_get hm hl
      have es' : (ord.map stgD)[(List.zipWith srD rows ls).length]? = some (stgD s) := by rw [hzl, List.getElem?_map, es]; rfl
      array_get_dec
      refine (sp_afterMiss s1 s2).go ?_
      rintro _ _ ⟨rfl, rfl⟩
      array_get_dec
      refine (sp_placeOf st (by omega)).go ?_
      rintro _ M9 ⟨rfl, st9, k9⟩
      have hc9 := st9.hc
      have hr9 := st9.hr
      have hpl := place_len ord (afterMiss t s).2
      array_get_dec
      refine lc_place (ord := (placeOf ord (afterMiss t s).2).2) (gs := afterHits t s) rfl (by show 6 < 7; decide) st9 (by unfold afterHits; rw [List.length_map]; omega) ?_ ?_
      · array_get_dec
        exact sp_afterHits ht s1 s2 s3
      · intro n MA hn gA stA kA
        have hcA := stA.hc
        have hrA := stA.hr
        array_get_dec
        refine wq_append hrA (size_lt (by rw [hzl]; omega)) ?_
        array_get_dec
        rename_i MB gB kB lB
        have lA := stA.lt
        have h9 := st9.lt
        have hco := st.co
        have hop := st.op
        have hpr := st.pr
        refine ⟨m, by omega, _, _, _, _, _, _, _, ls ++ [n], rfl, ?_, hm', ?_⟩
        · refine ⟨kB.at stA.hc (by omega), kB.at stA.ho (by omega), kB.at stA.hp (by omega), ?_, ?_, ?_, stA.co, stA.op, stA.pr, ?_⟩
          · rw [gB, List.zipWith_append st.hn.symm]; rfl
          · intro i n' w a b
            by_cases hi : i < rows.length
            · rw [List.getElem?_append_left (by rw [st.hn]; exact hi)] at a
              rw [List.getElem?_append_left hi] at b
              refine kB.at (stA.hl i n' w a b) ?_
              have := stA.rl n' (List.mem_of_getElem? a)
              omega
            · have hi2 : i = rows.length := by
                have := (List.getElem?_eq_some_iff.mp b).1
                simp at this; omega
              subst hi2
              have hne : ls.length = rows.length := st.hn
              rw [List.getElem?_append_right (by omega), hne] at a
              rw [List.getElem?_append_right (Nat.le_refl _)] at b
              simp at a b
              subst a b
              exact kB.at gA (by omega)
          · simp [st.hn]
          · intro n' hn'
            rcases List.mem_append.mp hn' with h | h
            · exact stA.rl n' h
            · have : n' = n := by simpa using h
              omega
        · refine ((kk.trans k9 ?_).trans kA ?_).trans kB ?_
          · intro n hn e; unfold OP at e; omega
          · intro n hn e; unfold OP at e; omega
          · intro n hn e
            have e' : n = r := e
            omega
  · rw [decide_eq_false (by rw [hzl, List.length_map]; intro h; exact hl (by exact_mod_cast h))]
    have e := stg_end hm hl
    cases e
    exact ⟨rfl, ⟨o, p, r, ls, st⟩, kk⟩
end L54

/-! text D6_54 -/
namespace L54
open PySem L2 PySem.Spec PyProof.Rows Zl
/-! ## numbers for keys -/
section
variable {α : Type} [DecidableEq α] {κ : α → NestedKey} {δ : α → Dv}
def KnAt (κ : α → NestedKey) (δ : α → Dv) (k : Nat) (kn : List α) (M : Mem) : Prop := (kn = [] ∧ M[k]? = some (.dct [])) ∨ M[k]? = some (.dcn (enN κ δ kn))
theorem put_nil (x : α) : putN [] (κ x) (δ x) (.int ((0 : Nat) : Int)) = enN κ δ [x] := rfl
theorem sp_numbered (hk : ∀ a, keyN (δ a) = some (κ a)) (inj : ∀ a b, κ a = κ b → a = b) {n : Nat} {xs : List α} {M : Mem} (hm : M[n]? = some (.lst (xs.map δ))) (hl : xs.length ≤ 50000) :
    Wp (m_numbered [.loc n] M) fun d M' => ∃ k, d = .loc k ∧ M.length ≤ k ∧ M'[k]? = some (.lst (intsN (places [] xs).1)) ∧ Kp NoW M M' := by
  have z := lt_of hm
  refine wp_fn rfl [some (.loc n), none, none, none] rfl ?_
  unfold b_numbered
  array_get_dec
  rename_i a M1 e1 g1 k1 l1 b M2 e2 g2 k2 l2
  refine wq_for (fun i env M' => ∃ x3 : Option Dv, env = [some (.loc n), some (.loc a), some (.loc b), x3] ∧ M'[n]? = some (.lst (xs.map δ)) ∧ KnAt κ δ a (places [] (xs.take i)).2 M' ∧ M'[b]? = some (.lst (intsN (places [] (xs.take i)).1)) ∧ Kp NoW M M') ?_
  have hm2 := k2.at (k1.at hm id) id
  array_get_dec
  refine k_forL (fun i env M' hh => by obtain ⟨_, _, h, _⟩ := hh; exact h) ⟨none, rfl, hm2, .inl ⟨rfl, k2.at g1 id⟩, g2, k1.tr k2⟩ ?_ ?_
  · rintro i d env M3 hd ⟨x3, rfl, c1, c2, c3, c4⟩
    have hi : i < xs.length := by have := (List.getElem?_eq_some_iff.mp hd).1; simpa using this
    have ei : xs[i]? = some xs[i] := List.getElem?_eq_getElem hi
    have ed : d = δ xs[i] := by rw [List.getElem?_map, ei] at hd; cases hd; rfl
    subst ed
    have hmore := places_more [] (xs.take i)
    have hlen := places_len [] (xs.take i)
    have ht : (xs.take i).length ≤ 50000 := by simp; omega
    have st : places [] (xs.take (i + 1)) = ((places [] (xs.take i)).1 ++ [(placeOf (places [] (xs.take i)).2 xs[i]).1], (placeOf (places [] (xs.take i)).2 xs[i]).2) := by
      rw [take_succ_of ei, places_app]; rfl
    rw [st]
    generalize hkn : (places [] (xs.take i)).2 = kn at *
    generalize hfd : (places [] (xs.take i)).1 = fd at *
    have hM3 := c4.1
    array_get_dec
    have kx := hk xs[i]
    -- behind the test: the key is known
    have fin : ∀ M4 : Mem, M4[n]? = some (.lst (xs.map δ)) → M4[a]? = some (.dcn (enN κ δ (placeOf kn xs[i]).2)) → M4[b]? = some (.lst (intsN fd)) → Kp NoW M M4 → ∀ {Q : QE}, (∀ M5, M5[n]? = some (.lst (xs.map δ)) → M5[a]? = some (.dcn (enN κ δ (placeOf kn xs[i]).2)) → M5[b]? = some (.lst (intsN (fd ++ [(placeOf kn xs[i]).1]))) → Kp NoW M M5 → Q .non M5) →
        ∀ E : En, Wp (ixE (.loc a) (δ xs[i]) M4) fun d M1 => Wp (fNil E M1) fun ds M2 => Wp (appendD (.loc b) (d :: ds) M2) Q := by
      intro M4 h1 h2 h3 h4 Q hq E
      have hv := val_enN (δ := δ) inj xs[i] (placeOf kn xs[i]).2
      have hin : xs[i] ∈ (placeOf kn xs[i]).2 := by unfold placeOf; split <;> simp [*]
      have hix : ixOf xs[i] (placeOf kn xs[i]).2 = (placeOf kn xs[i]).1 := by
        unfold placeOf
        split
        · rfl
        · rename_i h; exact ix_new h
      rw [if_pos hin, hix] at hv
      refine wp_ixN h2 kx hv ?_
      array_get_dec
      refine wq_append h3 (size_lt (by unfold intsN; rw [List.length_map]; omega)) ?_
      array_get_dec
      rename_i M5 g5 k5 l5
      have h4l := h4.1
      refine hq M5 (k5.at h1 (by omega)) (k5.at h2 (by omega)) (by rw [g5]; unfold intsN; rw [List.map_append]; rfl) (h4.trans k5 fun m hm e => ?_)
      have e' : m = b := e
      omega
    rcases c2 with ⟨hz, c2⟩ | c2
    · subst hz
      refine wp_in0 c2 kx ?_
      array_get_dec
      refine ki_of (c := true) rfl ?_
      array_get_dec
      refine wp_lenK c2 ?_
      array_get_dec
      refine k_set0 c2 kx ?_
      array_get_dec
      rename_i M4 g4 k4 l4
      have ep : placeOf [] xs[i] = (0, [xs[i]]) := rfl
      refine fin M4 (k4.at c1 (by omega)) g4 (k4.at c3 (by omega)) (c4.trans k4 fun m hm e => ?_) ?_ _
      · have e' : m = a := e
        omega
      · intro M5 f1 f2 f3 f4
        array_get_dec
        exact ⟨_, rfl, f1, .inr f2, f3, f4⟩
    · refine wp_inN c2 kx ?_
      have hv := val_enN (δ := δ) inj xs[i] kn
      array_get_dec
      by_cases hin : xs[i] ∈ kn
      · rw [if_pos hin] at hv
        refine ki_of (c := false) (by rw [hv]; rfl) ?_
        array_get_dec
        have ep : (placeOf kn xs[i]).2 = kn := by unfold placeOf; rw [if_pos hin]
        refine fin M3 c1 (by rw [ep]; exact c2) c3 c4 ?_ _
        intro M5 f1 f2 f3 f4
        array_get_dec
        exact ⟨_, rfl, f1, .inr f2, f3, f4⟩
      · rw [if_neg hin] at hv
        refine ki_of (c := true) (by rw [hv]; rfl) ?_
        array_get_dec
        refine wp_lenN c2 ?_
        array_get_dec
        refine k_setDn c2 kx (by rw [en_len]; simp at hmore; omega) ?_
        array_get_dec
        rename_i M4 g4 k4 l4
        have ep : (placeOf kn xs[i]).2 = kn ++ [xs[i]] := by unfold placeOf; rw [if_neg hin]
        rw [en_len, put_enN inj hin] at g4
        refine fin M4 (k4.at c1 (by omega)) (by rw [ep]; exact g4) (k4.at c3 (by omega)) (c4.trans k4 fun m hm e => ?_) ?_ _
        · have e' : m = a := e
          omega
        · intro M5 f1 f2 f3 f4
          array_get_dec
          exact ⟨_, rfl, f1, .inr f2, f3, f4⟩
  · rintro env M3 ⟨x3, rfl, c1, c2, c3, c4⟩
    array_get_dec
    rw [List.length_map, List.take_length] at c3
    exact ⟨b, rfl, by have := k1.1; omega, c3, c4⟩
end
end L54

/-! text D7_54 -/
namespace L54
open PySem L2 PySem.Spec PyProof.Rows Zl
/-! ## classes -/
def d2 (a : Nat × Nat) : Dv := .tup [.int (a.1 : Nat), .int (a.2 : Nat)]
def k2 (a : Nat × Nat) : NestedKey := .tup [.num (a.1 : Nat), .num (a.2 : Nat)]
theorem key_2 (a : Nat × Nat) : keyN (d2 a) = some (k2 a) := rfl
theorem k2_inj (a b : Nat × Nat) (h : k2 a = k2 b) : a = b := by
  unfold k2 at h
  simp only [NestedKey.tup.injEq, List.cons.injEq, and_true] at h
  exact Prod.ext (num_inj _ _ h.1) (num_inj _ _ h.2)
def d3 (a : SRow) : Dv := .tup [.int (a.1 : Nat), .int (a.2.1 : Nat), .tup (intsN a.2.2)]
def k3 (a : SRow) : NestedKey := .tup [.num (a.1 : Nat), .num (a.2.1 : Nat), .tup (a.2.2.map fun n => .num (n : Nat))]
theorem key_3 (a : SRow) : keyN (d3 a) = some (k3 a) := by
  show (match nkL (nkN 7) [.int (a.1 : Nat), .int (a.2.1 : Nat), .tup (intsN a.2.2)] with | some ks => some (NestedKey.tup ks) | none => none) = _
  have h2 : nkN 7 (.tup (intsN a.2.2)) = some (.tup (a.2.2.map fun n => .num (n : Nat))) := by
    show (match nkL (nkN 6) (intsN a.2.2) with | some ks => some (NestedKey.tup ks) | none => none) = _
    rw [nk_ints]
  unfold nkL nkL nkL
  simp only [h2]
  rfl
theorem k3_inj (a b : SRow) (h : k3 a = k3 b) : a = b := by
  unfold k3 at h
  simp only [NestedKey.tup.injEq, List.cons.injEq, and_true] at h
  exact Prod.ext (num_inj _ _ h.1) (Prod.ext (num_inj _ _ h.2.1) (map_inj num_inj h.2.2))
def keys1 (O : List Stg) (R : List SRow) : List (Nat × Nat) := List.zipWith (fun s w => (s.2.length, w.1)) O R
def keyOf (fd : List Nat) (own : Nat) (w : SRow) : SRow := (own, fd.getD w.2.1 0, w.2.2.map fun g => fd.getD g 0)
def keys2 (fd : List Nat) (R : List SRow) : List SRow := List.zipWith (keyOf fd) fd R
def cnt (fd : List Nat) : Nat := (dedupI (fd.map Int.ofNat)).length
def classF (R : List SRow) : Nat → Nat → List Nat → Option (List Nat)
  | 0, _, _ => none
  | f + 1, cn, fd => if cn < cnt fd then classF R f (cnt fd) (places [] (keys2 fd R)).1 else some fd
structure OkR2 (R : List SRow) : Prop where
  few : R.length ≤ 3000
  after : ∀ w ∈ R, w.2.1 < R.length
  hits : ∀ w ∈ R, w.2.2.length ≤ 100 ∧ ∀ g ∈ w.2.2, g < R.length
theorem class_len {R : List SRow} : ∀ {f cn : Nat} {fd cls : List Nat}, classF R f cn fd = some cls → fd.length = R.length → cls.length = R.length
  | 0, _, _, _, h, _ => by cases h
  | f + 1, cn, fd, cls, h, e => by
    unfold classF at h
    split at h
    · refine class_len h ?_
      rw [places_len]; unfold keys2; rw [List.length_zipWith]; omega
    · cases h; exact e
theorem zip_at2 {R : List SRow} {ls : List Nat} {i : Nat} {e : Dv} (h : (List.zipWith srD R ls)[i]? = some e) : ∃ w n, R[i]? = some w ∧ ls[i]? = some n ∧ e = srD w n := by
  rw [List.getElem?_zipWith] at h
  cases hr : R[i]? with
  | none => rw [hr] at h; cases h
  | some w =>
    cases hl : ls[i]? with
    | none => rw [hr, hl] at h; cases h
    | some n => rw [hr, hl] at h; cases h; exact ⟨w, n, rfl, rfl, rfl⟩
section
variable {c o p r : Nat} {O : List Stg} {R : List SRow} {ls : List Nat} {M M' : Mem}
theorem lc_keys1 {env : En} {q : QE} (he : env = [some (.loc c), none, none, none, none, none, none, none]) (h : StAt c o p r O R ls M) (hO : O.length = R.length) (hR : R.length ≤ 3000)
    (hq : ∀ n M', n = M.length → M'[n]? = some (.lst ((keys1 O R).map d2)) → Kp NoW M M' → q (.loc n) M') :
    Wp (fComp (fZip (fFld 0 "order" (fV 0)) (fFld 0 "rows" (fV 0))) [6, 5] (gOr (gT 2 (gsCons (gN 6) (gsCons (gN 5) gsNil))) (gL 2 (gsCons (gN 6) (gsCons (gN 5) gsNil)))) fYes (fTup (fCons (fC lenE (fCons (fO ixE (fV 6) (fK (.int 1))) fNil)) (fCons (fO ixE (fV 5) (fK (.int 0))) fNil))) env M) q := by
  subst he
  have hc := h.hc
  have ho := h.ho
  have hr := h.hr
  have hz := zip_len h.hn
  refine wq_lcG (fun _ => true) (fun i => match (keys1 O R)[i]? with | some a => d2 a | none => .non) ?_
  array_get_dec
  refine k_zipL ho hr ⟨by show min (O.map stgD).length (List.zipWith srD R ls).length ≤ _; rw [hz]; omega, ?_, ?_, ?_⟩
  · intro i M1 k1 hi
    have hi' : i < R.length := by have : i < min (O.map stgD).length (List.zipWith srD R ls).length := hi; omega
    have eO : O[i]? = some O[i] := List.getElem?_eq_getElem (by omega)
    have eR : R[i]? = some R[i] := List.getElem?_eq_getElem hi'
    have eL : ls[i]? = some (ls[i]'(by have := h.hn; omega)) := List.getElem?_eq_getElem _
    refine ⟨.pr [.tup [.int (O[i].1 : Nat), .tup (intsN O[i].2)], .tup [.int (R[i].1 : Nat), .int (R[i].2.1 : Nat), .loc (ls[i]'(by have := h.hn; omega))]], (stpZL_at (k1.at ho id) (k1.at hr id)).trans (congrArg some (zip_at (by rw [List.getElem?_map, eO]; rfl) (by rw [List.getElem?_zipWith, eR, eL]; rfl))), ?_⟩
    array_get_dec
    refine wp_ev (a := true) (M' := M1) rfl ⟨rfl, .refl, fun _ => ?_⟩
    array_get_dec
    refine ⟨?_, .refl⟩
    have e : (keys1 O R)[i]? = some (O[i].2.length, R[i].1) := by unfold keys1; rw [List.getElem?_zipWith, eO, eR]
    rw [e]
    simp [d2, intsN]
  · intro M1 k1
    exact (stpZL_at (k1.at ho id) (k1.at hr id)).trans (congrArg some zip_end)
  · intro n M1 e1 l1 k1 g1
    refine hq n M1 e1 ?_ k1
    rw [g1]
    congr 2
    have hm : min (O.map stgD).length (List.zipWith srD R ls).length = R.length := by rw [hz, List.length_map]; omega
    show ((List.range (min (O.map stgD).length (List.zipWith srD R ls).length)).filter fun _ => true).map _ = _
    rw [hm]
    refine List.ext_getElem? fun i => ?_
    rw [List.filter_eq_self.mpr fun _ _ => rfl, List.getElem?_map, List.getElem?_map]
    have hk : (keys1 O R).length = R.length := by unfold keys1; rw [List.length_zipWith]; omega
    by_cases hi : i < R.length
    · rw [List.getElem?_range hi, List.getElem?_eq_getElem (by omega)]
      show some (match (keys1 O R)[i]? with | some a => d2 a | none => .non) = _
      rw [List.getElem?_eq_getElem (by omega)]; rfl
    · rw [List.getElem?_eq_none (by simp; omega), List.getElem?_eq_none (by omega)]; rfl
end
end L54

/-! text D8_54 -/
namespace L54
open PySem L2 PySem.Spec PyProof.Rows Zl
section
variable {c o p r : Nat} {O : List Stg} {R : List SRow} {ls : List Nat} {M M' : Mem}
theorem getD_at {fd : List Nat} {i : Nat} (h : i < fd.length) : fd[i]? = some (fd.getD i 0) := by
  rw [List.getD_eq_getElem?_getD, List.getElem?_eq_getElem h]; rfl
theorem sp_classes {f : Nat} {cls : List Nat} (h : StAt c o p r O R ls M) (hO : O.length = R.length) (ok : OkR2 R) (hf : f ≤ 5000) (hC : classF R f 0 (places [] (keys1 O R)).1 = some cls) :
    Wp (m_classes_of [.loc c] M) fun d M' => ∃ k, d = .loc k ∧ M.length ≤ k ∧ M'[k]? = some (.lst (intsN cls)) ∧ Kp NoW M M' := by
  have hR := ok.few
  have hk1 : (keys1 O R).length = R.length := by unfold keys1; rw [List.length_zipWith]; omega
  refine wp_fn rfl [some (.loc c), none, none, none, none, none, none, none] rfl ?_
  unfold b_classes_of
  array_get_dec
  refine lc_keys1 rfl h hO hR fun n M1 e1 g1 q1 => ?_
  array_get_dec
  refine (sp_numbered key_2 k2_inj g1 (by omega)).go ?_
  rintro _ M2 ⟨k, rfl, hk, g2, q2⟩
  array_get_dec
  have hM1 := q1.1
  refine wp_whileI (fun m env M' => ∃ (x3 x4 x5 : Option Dv) (cn : Nat) (fd : List Nat) (k : Nat), env = [some (.loc c), some (.loc k), some (.int (cn : Nat)), x3, x4, x5, none, none] ∧ M.length ≤ k ∧ M'[k]? = some (.lst (intsN fd)) ∧ fd.length = R.length ∧ classF R m cn fd = some cls ∧ Kp NoW M M') ?_ 1000000 f _ M2 (by omega) ⟨none, none, none, 0, _, k, rfl, by omega, g2, by rw [places_len, hk1], hC, q1.tr q2⟩
  rintro m env M3 ⟨x3, x4, x5, cn, fd, k, rfl, hk, g3, hfd, hm, q3⟩
  have hM3 := q3.1
  have hk3 := lt_of g3
  array_get_dec
  refine wq_set g3 (by omega) ?_
  array_get_dec
  rename_i s1 M4 e4 g4 q4 l4
  refine wp_lenS g4 ?_
  array_get_dec
  have hM4 := q4.1
  cases m with
  | zero => cases hm
  | succ m =>
    unfold classF at hm
    by_cases hlt : cn < cnt fd
    · rw [if_pos hlt] at hm
      rw [decide_eq_true (show ((cn : Nat) : Int) < ((dedupI (fd.map Int.ofNat)).length : Nat) by exact_mod_cast hlt)]
      refine (show Wp _ _ from ?_)
      have g34 := q4.at g3 id
      array_get_dec
      refine wq_set g34 (by omega) ?_
      array_get_dec
      rename_i s2 M5 e5 g5 q5 l5
      refine wp_lenS g5 ?_
      array_get_dec
      rename_i ks M6 e6 g6 q6 l6
      have st6 := ((((h.kpN q3).kpN q4).kpN q5).kpN q6)
      have hc6 := st6.hc
      have hr6 := st6.hr
      have g36 := q6.at (q5.at g34 id) id
      have kk6 : Kp NoW M M6 := ((q3.tr q4).tr q5).tr q6
      have hM5 := q5.1
      have z := h.lt
      refine wq_for (fun i env M' => ∃ (x4 x5 : Option Dv), env = [some (.loc c), some (.loc k), some (.int (cnt fd : Nat)), some (.loc ks), x4, x5, none, none] ∧ M'[k]? = some (.lst (intsN fd)) ∧ M'[r]? = some (.lst (List.zipWith srD R ls)) ∧ M'[ks]? = some (.lst (((keys2 fd R).take i).map d3)) ∧ Kp NoW M M') ?_
      array_get_dec
      refine k_zipL g36 hr6 ?_
      refine k_forZL (by rw [zip_len h.hn]; unfold intsN; rw [List.length_map]; omega) (fun i env M' hh => by obtain ⟨_, _, _, a, b, _⟩ := hh; exact ⟨a, b⟩) ⟨x4, x5, rfl, g36, hr6, g6, kk6⟩ ?_ ?_
      · rintro i d e env M7 hd he ⟨x4, x5, rfl, a1, a2, a3, a4⟩
        obtain ⟨w, n, ew, en, rfl⟩ := zip_at2 he
        have hi : i < fd.length := by have := (List.getElem?_eq_some_iff.mp hd).1; unfold intsN at this; simpa using this
        have ed : d = .int ((fd[i] : Nat) : Int) := by
          unfold intsN at hd
          rw [List.getElem?_map, List.getElem?_eq_getElem hi] at hd
          cases hd; rfl
        subst ed
        have hw := List.mem_of_getElem? ew
        have hit : M7[n]? = some (.lst (intsN w.2.2)) := a4.at (h.hl i n w en ew) id
        have ea : (intsN fd)[w.2.1]? = some (.int ((fd.getD w.2.1 0 : Nat) : Int)) := ints_at (getD_at (by have := ok.after w hw; omega))
        have hh := ok.hits w hw
        have hM7 := a4.1
        unfold srD
        array_get_dec
        refine wq_map (fun x => match x with | .int j => .int ((fd.getD j.toNat 0 : Nat) : Int) | _ => .non) ?_
        array_get_dec
        refine k_mapL hit (size_le (by unfold intsN; rw [List.length_map]; omega)) ?_ ?_
        · intro y hy M8 q8
          obtain ⟨g, hg, rfl⟩ := List.mem_map.mp hy
          have eg : (intsN fd)[g]? = some (.int ((fd.getD g 0 : Nat) : Int)) := ints_at (getD_at (by have := hh.2 g hg; omega))
          have a18 := q8.at a1 id
          array_get_dec
          exact ⟨rfl, .refl⟩
        · intro n8 M8 e8 l8 q8 g8
          have a38 := q8.at a3 id
          array_get_dec
          refine wq_append a38 (size_lt (by rw [List.length_map, List.length_take]; unfold keys2; rw [List.length_zipWith]; omega)) ?_
          array_get_dec
          rename_i M9 g9 q9 l9
          have hM8 := q8.1
          refine ⟨_, _, rfl, q9.at (q8.at a1 id) (by omega), q9.at (q8.at a2 id) (by omega), ?_, (a4.tr q8).trans q9 ?_⟩
          · rw [g9]
            have e : (keys2 fd R)[i]? = some (keyOf fd fd[i] w) := by unfold keys2; rw [List.getElem?_zipWith, List.getElem?_eq_getElem hi, ew]
            rw [take_succ_of e, List.map_append]
            congr 3
            show _ = [d3 (keyOf fd fd[i] w)]
            unfold d3 keyOf
            simp only
            congr 3
            unfold intsN
            rw [List.map_map, List.map_map]
            rfl
          · intro n hn e
            have e' : n = ks := e
            omega
      · rintro env M7 ⟨x4, x5, rfl, a1, a2, a3, a4⟩
        have e : (keys2 fd R).take (intsN fd).length = keys2 fd R := List.take_of_length_le (by unfold keys2 intsN; rw [List.length_zipWith, List.length_map]; omega)
        rw [e] at a3
        array_get_dec
        refine (sp_numbered key_3 k3_inj a3 (by unfold keys2; rw [List.length_zipWith]; omega)).go ?_
        rintro _ M8 ⟨k', rfl, hk', g8, q8⟩
        have hM7 := a4.1
        array_get_dec
        exact ⟨m, by omega, _, _, _, cnt fd, _, k', rfl, by omega, g8, by rw [places_len]; unfold keys2; rw [List.length_zipWith]; omega, hm, a4.tr q8⟩
    · rw [if_neg hlt] at hm
      rw [decide_eq_false (show ¬ ((cn : Nat) : Int) < ((dedupI (fd.map Int.ofNat)).length : Nat) by intro h'; exact hlt (by exact_mod_cast h'))]
      refine (show (kSeq _ _ _ _ : Prop) from ?_)
      array_get_dec
      cases hm
      exact ⟨k, rfl, hk, q4.at g3 id, q3.tr q4⟩
end
end L54

/-! text D9_54 -/
namespace L54
open PySem L2 PySem.Spec PyProof.Rows Zl
/-! ## the first stage of each class -/
def enK (ks : List Nat) : List (Key × Dv) := ks.zipIdx.map fun p => (.inl (p.1 : Nat), .int (p.2 : Nat))
theorem valK_cons {kv : Key × Dv} {kvs : List (Key × Dv)} {k : Key} : valD (kv :: kvs) k = if kv.1 = k then some kv.2 else valD kvs k := by
  unfold valD
  rw [List.find?_cons]
  by_cases h : kv.1 = k
  · rw [if_pos h]; simp [h]
  · rw [if_neg h]; simp [h]
theorem inl_inj {a b : Nat} (h : (Sum.inl (a : Int) : Key) = .inl (b : Int)) : a = b := by
  have := Sum.inl.inj h
  exact Int.ofNat_inj.mp this
theorem val_enK0 (x : Nat) : ∀ (xs : List Nat) (o : Nat), valD ((xs.zipIdx o).map fun p => ((.inl (p.1 : Nat) : Key), Dv.int (p.2 : Nat))) (.inl (x : Nat)) = if x ∈ xs then some (.int ((o + ixOf x xs : Nat) : Int)) else none
  | [], o => rfl
  | y :: ys, o => by
    rw [List.zipIdx_cons, List.map_cons, valK_cons, val_enK0 x ys (o + 1)]
    by_cases h : y = x
    · subst h
      rw [if_pos rfl, if_pos (List.mem_cons_self ..)]
      simp [ixOf]
    · rw [if_neg fun e => h (inl_inj e)]
      have h' : ¬ x = y := fun e => h e.symm
      by_cases hm : x ∈ ys
      · rw [if_pos hm, if_pos (List.mem_cons_of_mem _ hm)]
        have hb : ixOf x (y :: ys) = ixOf x ys + 1 := by show (if y = x then 0 else _) = _; rw [if_neg h]
        rw [hb]
        congr 3
        omega
      · rw [if_neg hm, if_neg (by simp [h', hm])]
theorem val_enK (x : Nat) (xs : List Nat) : valD (enK xs) (.inl (x : Nat)) = if x ∈ xs then some (.int ((ixOf x xs : Nat) : Int)) else none := by
  have := val_enK0 x xs 0
  rw [Nat.zero_add] at this
  exact this
theorem put_enK {x : Nat} {xs : List Nat} (h : x ∉ xs) : putDk (enK xs) (.inl (x : Nat)) (.int (xs.length : Nat)) = enK (xs ++ [x]) := by
  have ha : (enK xs).any (fun kv => decide (kv.1 = .inl (x : Nat))) = false := by
    rw [List.any_eq_false]
    intro p hp
    unfold enK at hp
    obtain ⟨⟨y, i⟩, hy, rfl⟩ := List.mem_map.mp hp
    have hm : y ∈ xs := List.fst_mem_of_mem_zipIdx hy
    simp only [decide_eq_true_eq]
    intro e
    exact h (inl_inj e ▸ hm)
  unfold putDk
  rw [ha]
  show enK xs ++ _ = _
  unfold enK
  rw [List.zipIdx_append, List.map_append]
  simp
theorem enK_len {xs : List Nat} : (enK xs).length = xs.length := by simp [enK]
def cl (cls : List Nat) (i : Nat) : Nat := cls.getD i 0
def add1 (cls : List Nat) (o : List Nat) (g : Nat) : List Nat := if cl cls g ∈ o.map (cl cls) then o else o ++ [g]
def addG (cls : List Nat) (o gs : List Nat) : List Nat := gs.foldl (add1 cls) o
def firstsF (cls : List Nat) (R : List SRow) : Nat → Nat → List Nat → Option (List Nat)
  | 0, _, _ => none
  | f + 1, i, ord => match ord[i]? with
    | none => some ord
    | some s => match R[s]? with
      | none => none
      | some w => if ord.length ≤ 3000 then firstsF cls R f (i + 1) (addG cls ord (w.2.1 :: w.2.2)) else none
theorem add1_len {cls o : List Nat} {g : Nat} : (add1 cls o g).length ≤ o.length + 1 := by
  unfold add1
  split <;> simp
theorem addG_len {cls : List Nat} : ∀ {gs o : List Nat}, (addG cls o gs).length ≤ o.length + gs.length
  | [], _ => Nat.le_refl _
  | g :: gs, o => by
    have h1 := addG_len (cls := cls) (gs := gs) (o := add1 cls o g)
    have h2 := add1_len (cls := cls) (o := o) (g := g)
    show (addG cls (add1 cls o g) gs).length ≤ _
    rw [List.length_cons]; omega
theorem addG_succ {cls o gs : List Nat} {i g : Nat} (h : gs[i]? = some g) : addG cls o (gs.take (i + 1)) = add1 cls (addG cls o (gs.take i)) g := by
  rw [take_succ_of h]; unfold addG; rw [List.foldl_append]; rfl
theorem atI_0 {xs : List Dv} {x : Dv} (h : xs[0]? = some x) : atI xs 0 = some x := atI_n (j := 0) h
section
variable {c o p r : Nat} {O : List Stg} {R : List SRow} {ls : List Nat} {M M' : Mem}
theorem sp_firsts {f kc : Nat} {cls ord : List Nat} (h : StAt c o p r O R ls M) (ok : OkR2 R) (hcl : M[kc]? = some (.lst (intsN cls))) (hcR : cls.length = R.length) (hR1 : 1 ≤ R.length) (hf : f ≤ 5000) (hF : firstsF cls R f 0 [0] = some ord) :
    Wp (m_firsts_of [.loc c, .loc kc] M) fun d M' => ∃ a b, d = .tup [.loc a, .loc b] ∧ M'[a]? = some (.lst (intsN ord)) ∧ M'[b]? = some (.dct (enK (ord.map (cl cls)))) ∧ Kp NoW M M' := by
  have e0 : (intsN cls)[0]? = some (.int ((cl cls 0 : Nat) : Int)) := ints_at (getD_at (by omega))
  have z := lt_of hcl
  have hlt := h.lt
  refine wp_fn rfl [some (.loc c), some (.loc kc), none, none, none, none, none, none, none] rfl ?_
  unfold b_firsts_of
  array_get_dec
  rename_i a M1 e1 g1 q1 l1
  refine wq_dict1K ?_
  array_get_dec
  rename_i b M2 e2 g2 q2 l2
  refine wp_ixL (q2.at (q1.at hcl id) id) (atI_0 e0) ?_
  array_get_dec
  refine ⟨_, g2, rfl, ?_⟩
  array_get_dec
  rename_i M3 g3 q3 l3
  have hM1 := q1.1
  have hM2 := q2.1
  have k3' : Kp NoW M M3 := by
    refine (q1.tr q2).trans q3 ?_
    intro n hn e
    have e' : n = b := e
    omega
  refine wp_whileI (fun m env M' => ∃ (x5 x6 x7 x8 : Option Dv) (i : Nat) (od : List Nat), env = [some (.loc c), some (.loc kc), some (.loc a), some (.loc b), some (.int (i : Nat)), x5, x6, x7, x8] ∧ M'[a]? = some (.lst (intsN od)) ∧ M'[b]? = some (.dct (enK (od.map (cl cls)))) ∧ (∀ x ∈ od, x < R.length) ∧ firstsF cls R m i od = some ord ∧ Kp NoW M M') ?_ 1000000 f _ M3 (by omega) ⟨none, none, none, none, 0, [0], rfl, q3.at (q2.at g1 id) (by omega), g3, fun x hx => by simp at hx; omega, hF, k3'⟩
  rintro m env M4 ⟨x5, x6, x7, x8, i, od, rfl, g4, d4, ho, hm, kk⟩
  have hM4 := kk.1
  array_get_dec
  cases m with
  | zero => cases hm
  | succ m =>
    by_cases hi : i < od.length
    · rw [decide_eq_true (by unfold intsN; rw [List.length_map]; exact_mod_cast hi)]
      refine (show Wp _ _ from ?_)
      have eo : od[i]? = some od[i] := List.getElem?_eq_getElem hi
      have hs := ho od[i] (List.getElem_mem hi)
      have er : R[od[i]]? = some R[od[i]] := List.getElem?_eq_getElem hs
      have hw := List.mem_of_getElem? er
      unfold firstsF at hm
      rw [eo] at hm
      simp only at hm
      rw [er] at hm
      simp only at hm
      split at hm
      · rename_i h3
        generalize hR' : R[od[i]] = w at *
        obtain ⟨n, hn⟩ : ∃ n, ls[od[i]]? = some n := ⟨ls[od[i]]'(by have := h.hn; omega), List.getElem?_eq_getElem _⟩
        have st4 := h.kpN kk
        have hc4 := st4.hc
        have hr4 := st4.hr
        have hl4 := st4.hl _ _ _ hn er
        have eo' := ints_at eo
        have ez : (List.zipWith srD R ls)[od[i]]? = some (.tup [.int (w.1 : Nat), .int (w.2.1 : Nat), .loc n]) := by rw [List.getElem?_zipWith, er, hn]; rfl
        have hh := ok.hits w hw
        have ha := ok.after w hw
        array_get_dec
        refine wq_for (fun j env M' => ∃ (x8 : Option Dv), env = [some (.loc c), some (.loc kc), some (.loc a), some (.loc b), some (.int (i : Nat)), some (.int (w.1 : Nat)), some (.int (w.2.1 : Nat)), some (.loc n), x8] ∧ M'[a]? = some (.lst (intsN (addG cls od ((w.2.1 :: w.2.2).take j)))) ∧ M'[b]? = some (.dct (enK ((addG cls od ((w.2.1 :: w.2.2).take j)).map (cl cls)))) ∧ (∀ x ∈ addG cls od ((w.2.1 :: w.2.2).take j), x < R.length) ∧ M'[M4.length + 1]? = some (.lst (intsN (w.2.1 :: w.2.2))) ∧ Kp (fun x => x = a ∨ x = b) M4 M') ?_
        array_get_dec
        rename_i n5 M5 e5 g5 q5 l5
        refine wq_addL g5 (q5.at hl4 id) (by unfold intsN; rw [List.length_map]; show 1 + _ ≤ _; omega) ?_
        array_get_dec
        rename_i n6 M6 e6 g6 q6 l6
        have hg : ([Dv.int (w.2.1 : Nat)] ++ intsN w.2.2) = intsN (w.2.1 :: w.2.2) := rfl
        rw [hg] at g6
        have hM5 := q5.1
        have hM6 := q6.1
        have la := lt_of g4
        have lb := lt_of d4
        obtain rfl : n6 = M4.length + 1 := by omega
        array_get_dec
        refine k_forL (fun j env M' hh => by obtain ⟨_, _, _, _, _, hh, _⟩ := hh; exact hh) ⟨x8, rfl, q6.at (q5.at g4 id) id, q6.at (q5.at d4 id) id, ho, g6, ((Kp.refl (W := fun x => x = a ∨ x = b)).trN q5).trN q6⟩ ?_ ?_
        · rintro j d env M7 hd ⟨x8, rfl, a1, a2, a3, a4, a5⟩
          replace hd : (intsN (w.2.1 :: w.2.2))[j]? = some d := hd
          have hj : j < (w.2.1 :: w.2.2).length := by have := (List.getElem?_eq_some_iff.mp hd).1; unfold intsN at this; rw [List.length_map] at this; exact this
          have ej : (w.2.1 :: w.2.2)[j]? = some (w.2.1 :: w.2.2)[j] := List.getElem?_eq_getElem hj
          have hgR : (w.2.1 :: w.2.2)[j] < R.length := by
            rcases List.mem_cons.mp (List.getElem_mem hj) with e | e
            · rw [e]; exact ha
            · exact hh.2 _ e
          have ed : d = .int (((w.2.1 :: w.2.2)[j] : Nat) : Int) := by rw [ints_at ej] at hd; cases hd; rfl
          subst ed
          have hlen := addG_len (cls := cls) (o := od) (gs := (w.2.1 :: w.2.2).take j)
          have ht : ((w.2.1 :: w.2.2).take j).length ≤ 101 := by rw [List.length_take, List.length_cons]; omega
          have es := addG_succ (cls := cls) (o := od) ej
          rw [es]
          generalize addG cls od ((w.2.1 :: w.2.2).take j) = od' at *
          generalize (w.2.1 :: w.2.2)[j] = g at *
          have kM := kk.1
          have c7 : M7[kc]? = some (.lst (intsN cls)) := a5.at (kk.at hcl id) (by omega)
          have ec : (intsN cls)[g]? = some (.int ((cl cls g : Nat) : Int)) := ints_at (getD_at (by omega))
          have hv := val_enK (cl cls g) (od'.map (cl cls))
          array_get_dec
          refine wp_inK a2 (k := .inl ((cl cls g : Nat) : Int)) rfl ?_
          array_get_dec
          by_cases hin : cl cls g ∈ od'.map (cl cls)
          · rw [if_pos hin] at hv
            refine ki_of (c := false) (by rw [hv]; rfl) ?_
            array_get_dec
            have e : add1 cls od' g = od' := by unfold add1; rw [if_pos hin]
            rw [e]
            exact ⟨_, rfl, a1, a2, a3, a4, a5⟩
          · rw [if_neg hin] at hv
            refine ki_of (c := true) (by rw [hv]; rfl) ?_
            array_get_dec
            refine k_setDk a2 (k := .inl ((cl cls g : Nat) : Int)) rfl (size_lt (by rw [enK_len, List.length_map]; omega)) ?_
            array_get_dec
            rename_i M8 g8 q8 l8
            refine wq_append (q8.at a1 (by omega)) (size_lt (by unfold intsN; rw [List.length_map]; omega)) ?_
            array_get_dec
            rename_i M9 g9 q9 l9
            have e : add1 cls od' g = od' ++ [g] := by unfold add1; rw [if_neg hin]
            rw [e]
            have el : (intsN od').length = (od'.map (cl cls)).length := by unfold intsN; rw [List.length_map, List.length_map]
            refine ⟨_, rfl, by rw [g9]; unfold intsN; rw [List.map_append]; rfl, ?_, ?_, q9.at (q8.at a4 (by omega)) (by omega), (a5.trans q8 fun n _ e => .inr e).trans q9 fun n _ e => .inl e⟩
            · rw [q9.at g8 (by omega), el, put_enK hin, List.map_append]; rfl
            · intro x hx
              rcases List.mem_append.mp hx with hx | hx
              · exact a3 x hx
              · have : x = g := by simpa using hx
                omega
        · rintro env M7 ⟨x8, rfl, a1, a2, a3, a4, a5⟩
          have et : (w.2.1 :: w.2.2).take (intsN (w.2.1 :: w.2.2)).length = w.2.1 :: w.2.2 := List.take_of_length_le (by unfold intsN; rw [List.length_map]; exact Nat.le_refl _)
          replace a1 : M7[a]? = some (.lst (intsN (addG cls od ((w.2.1 :: w.2.2).take (intsN (w.2.1 :: w.2.2)).length)))) := a1
          replace a2 : M7[b]? = some (.dct (enK ((addG cls od ((w.2.1 :: w.2.2).take (intsN (w.2.1 :: w.2.2)).length)).map (cl cls)))) := a2
          replace a3 : ∀ x ∈ addG cls od ((w.2.1 :: w.2.2).take (intsN (w.2.1 :: w.2.2)).length), x < R.length := a3
          rw [et] at a1 a2 a3
          array_get_dec
          refine ⟨m, by omega, _, _, _, _, i + 1, _, rfl, a1, a2, a3, hm, kk.trans a5 ?_⟩
          intro n hn e
          omega
      · cases hm
    · rw [decide_eq_false (by unfold intsN; rw [List.length_map]; intro h'; exact hi (by exact_mod_cast h'))]
      refine (show (kSeq _ _ _ _ : Prop) from ?_)
      unfold firstsF at hm
      rw [List.getElem?_eq_none (by omega)] at hm
      cases hm
      array_get_dec
      exact ⟨a, b, rfl, g4, d4, kk⟩
end
end L54

/-! text D10_54 -/
namespace L54
open PySem L2 PySem.Spec PyProof.Rows Zl
/-! ## rules: enumerate a list, max -/
def stpEL (n : Nat) : Stp := fun i M => match M[n]? with
  | some (.lst xs) => some (pairs xs i)
  | _ => none
theorem k_enumL {n : Nat} {xs : List Dv} {M : Mem} {qi : Src → Mem → Prop} (hm : M[n]? = some (.lst xs)) (h : qi ⟨xs.length, stpEL n⟩ M) : kEnum qi (.loc n) M := by
  refine ⟨⟨xs.length, stpEL n⟩, ?_, h⟩
  unfold srcE
  simp only [hm]
  rfl
theorem stpEL_at {n i : Nat} {xs : List Dv} {M : Mem} (hm : M[n]? = some (.lst xs)) : stpEL n i M = some (pairs xs i) := by
  unfold stpEL; simp only [hm]
theorem k_forEL {env : En} {M : Mem} {g : FG} {f : FS} {Q : QS} {n : Nat} {xs : List Dv} {I : Nat → En → Mem → Prop} (hm : ∀ i env M, I i env M → M[n]? = some (.lst xs)) (h0 : I 0 env M) (h1 : ∀ i d env M, xs[i]? = some d → I i env M → Wp (g (.pr [.int (i : Nat), d]) env M) fun e1 M1 => Wp (f e1 M1) (kLoop (I (i + 1)) Q)) (h2 : ∀ env M, I xs.length env M → Q (.nx env) M) : kFor I g f env Q ⟨xs.length, stpEL n⟩ M :=
  ⟨h0, fun i env M hi hh => ⟨_, by show stpEL n i M = _; rw [stpEL_at (hm i env M hh)]; unfold pairs; rw [List.getElem?_eq_getElem hi]; rfl, h1 i _ env M (List.getElem?_eq_getElem hi) hh⟩,
    fun env M hh => ⟨by show stpEL n xs.length M = _; rw [stpEL_at (hm _ env M hh)]; unfold pairs; rw [List.getElem?_eq_none (Nat.le_refl _)]; rfl, h2 env M hh⟩⟩
theorem ints_n : ∀ xs : List Nat, intsD (intsN xs) = some (xs.map fun n => ((n : Nat) : Int))
  | [] => rfl
  | x :: xs => by
    show (match intsD (intsN xs) with | some ns => some (((x : Nat) : Int) :: ns) | none => none) = _
    rw [ints_n xs]; rfl
theorem maxI_n : ∀ (xs : List Nat) (m : Nat), maxI (m : Nat) (xs.map fun n => ((n : Nat) : Int)) = ((xs.foldl max m : Nat) : Int)
  | [], _ => rfl
  | x :: xs, m => by
    show maxI (if ((x : Nat) : Int) > (m : Nat) then ((x : Nat) : Int) else (m : Nat)) (xs.map fun n => ((n : Nat) : Int)) = ((xs.foldl max (max m x) : Nat) : Int)
    rw [← maxI_n xs (max m x)]
    congr 1
    split <;> omega
theorem wq_maxN {n : Nat} {xs : List Nat} {M : Mem} {q : QE} (hm : M[n]? = some (.lst (intsN xs))) (h0 : xs ≠ []) (k : q (.int (xs.foldl max 0 : Nat)) M) : Wp (maxD [.loc n] M) q := by
  refine wp_ev ?_ k
  unfold maxD
  simp only [hm]
  cases xs with
  | nil => exact absurd rfl h0
  | cons x xs =>
    rw [ints_n]
    simp only [List.map_cons]
    rw [maxI_n]
    show some (Dv.int ((List.foldl max x xs : Nat) : Int), M) = some (Dv.int ((List.foldl max (max 0 x) xs : Nat) : Int), M)
    rw [Nat.zero_max]
/-! ## the plain form -/
def numOf (cls ord : List Nat) (g : Nat) : Nat := ixOf (cl cls g) (ord.map (cl cls))
def linesOf (O : List Stg) : Nat := (O.map fun s => s.2.length).foldl max 0
def pRow (cls ord : List Nat) (R : List SRow) (l : Nat) (ix number : Nat) : Row :=
  ⟨(R.getD ix (0, 0, [])).1, numOf cls ord (R.getD ix (0, 0, [])).2.1, (R.getD ix (0, 0, [])).2.2.map (numOf cls ord) ++ List.replicate (l - (R.getD ix (0, 0, [])).2.2.length) number⟩
def okAll (O : List Stg) (R : List SRow) (cls ord : List Nat) : Bool :=
  decide (O.length = R.length) && decide (R.length ≤ 3000) && decide (1 ≤ R.length) && decide (ord.length ≤ 64) && decide (linesOf O ≤ 16) &&
  (R.all fun w => decide (w.2.1 < R.length) && decide (w.2.2.length ≤ linesOf O) && w.2.2.all fun g => decide (g < R.length)) &&
  (ord.all fun ix => decide (ix < R.length) && decide (cl cls (R.getD ix (0, 0, [])).2.1 ∈ ord.map (cl cls)) && (R.getD ix (0, 0, [])).2.2.all fun g => decide (cl cls g ∈ ord.map (cl cls)))
def plainF (t : Tb) : Option Tb := match stagesF t 2000 [(0, [])] [] with
  | none => none
  | some (O, R) => match classF R 500 0 (places [] (keys1 O R)).1 with
    | none => none
    | some cls => match firstsF cls R 2000 0 [0] with
      | none => none
      | some ord => if okAll O R cls ord then some ⟨linesOf O, ord.zipIdx.map fun p => pRow cls ord R (linesOf O) p.1 p.2⟩ else none
theorem sp_checkPolicy {t : Tb} {M : Mem} (h : OkT t) : Wp (m_check_policy [tabD t] M) fun d M' => Kp NoW M M' := by
  refine wp_fn rfl [some (tabD t)] rfl ?_
  unfold b_check_policy
  array_get_dec
  refine (sp_isPolicy h).go ?_
  rintro _ M1 ⟨rfl, k1⟩
  array_get_dec
  refine ki_of (c := false) (by ac_nf0) ?_
  array_get_dec
  exact k1
theorem sp_plain {t t' : Tb} {M : Mem} (ht : OkT t) (hp : plainF t = some t') : Wp (m_plain [tabD t] M) fun d M' => d = tabD t' ∧ Kp NoW M M' := by
  unfold plainF at hp
  split at hp
  · cases hp
  rename_i O R hS
  split at hp
  · cases hp
  rename_i cls hC
  split at hp
  · cases hp
  rename_i ord hF
  split at hp
  rotate_left
  · cases hp
  rename_i hok
  cases hp
  unfold okAll at hok
  simp only [Bool.and_eq_true, decide_eq_true_eq, List.all_eq_true] at hok
  obtain ⟨⟨⟨⟨⟨⟨o1, o2⟩, o3⟩, o4⟩, o5⟩, o6⟩, o7⟩ := hok
  have ok : OkR2 R := ⟨o2, fun w hw => (o6 w hw).1.1, fun w hw => ⟨by have := (o6 w hw).1.2; omega, (o6 w hw).2⟩⟩
  have hk1 : (keys1 O R).length = R.length := by unfold keys1; rw [List.length_zipWith]; omega
  have hcR := class_len hC (by rw [places_len, hk1])
  refine wp_fn rfl [some (tabD t), none, none, none, none, none, none, none, none, none, none, none, none, none, none, none] rfl ?_
  unfold b_plain c_MOST_STATES
  array_get_dec
  refine (sp_checkPolicy ht).go ?_
  rintro d1 M1 q1
  array_get_dec
  rename_i c M2 e2 g2 q2 l2
  refine (sp_init ht g2 (by omega) hS).go ?_
  rintro _ M3 ⟨rfl, ⟨o, p, r, ls, st3⟩, q3⟩
  have hM1 := q1.1
  have kk3 : Kp NoW M M3 := by
    refine (q1.tr q2).trans q3 ?_
    intro n hn e
    have e' : n = c := e
    omega
  array_get_dec
  refine (sp_classes st3 o1 ok (by omega) hC).go ?_
  rintro _ M4 ⟨kc, rfl, hkc, g4, q4⟩
  array_get_dec
  have st4 := st3.kpN q4
  refine (sp_firsts st4 ok g4 hcR o3 (by omega) hF).go ?_
  rintro _ M5 ⟨a, b, rfl, g5, d5, q5⟩
  array_get_dec
  have st5 := st4.kpN q5
  have c5 := q5.at g4 id
  have hc5 := st5.hc
  have ho5 := st5.ho
  refine ki_of (c := false) (decide_eq_false (by unfold intsN; rw [List.length_map]; omega)) ?_
  array_get_dec
  refine wq_lcG (fun _ => true) (fun i => match O[i]? with | some s => .int ((s.2.length : Nat) : Int) | none => .non) ?_
  array_get_dec
  refine ⟨by show (O.map stgD).length ≤ _; rw [List.length_map]; omega, ?_, ?_, ?_⟩
  · intro i M6 q6 hi
    have hi' : i < O.length := by have : i < (O.map stgD).length := hi; simpa using this
    have eO : O[i]? = some O[i] := List.getElem?_eq_getElem hi'
    refine ⟨.tup [.int (O[i].1 : Nat), .tup (intsN O[i].2)], by show stpL o i M6 = _; rw [stpL_at (q6.at ho5 id), List.getElem?_map, eO]; rfl, ?_⟩
    array_get_dec
    refine wp_ev (a := true) (M' := M6) rfl ⟨rfl, .refl, fun _ => ?_⟩
    array_get_dec
    refine ⟨?_, .refl⟩
    rw [eO]
    simp [intsN]
  · intro M6 q6
    show stpL o (O.map stgD).length M6 = _
    rw [stpL_at (q6.at ho5 id), List.getElem?_eq_none (Nat.le_refl _)]
  intro nx M6 e6 l6 q6 g6
  have g6' : M6[nx]? = some (.lst (intsN (O.map fun s => s.2.length))) := by
    rw [g6]
    congr 2
    show ((List.range (O.map stgD).length).filter fun _ => true).map _ = _
    rw [List.filter_eq_self.mpr fun _ _ => rfl, List.length_map]
    refine List.ext_getElem? fun i => ?_
    unfold intsN
    rw [List.map_map, List.getElem?_map, List.getElem?_map]
    by_cases hi : i < O.length
    · rw [List.getElem?_range hi, List.getElem?_eq_getElem hi]
      show some (match O[i]? with | some s => _ | none => _) = _
      rw [List.getElem?_eq_getElem hi]; rfl
    · rw [List.getElem?_eq_none (by simp; omega), List.getElem?_eq_none (by omega)]; rfl
  array_get_dec
  refine wq_maxN g6' (by intro e; have := congrArg List.length e; simp at this; rw [this] at o1; simp at o1; omega) ?_
  array_get_dec
  rename_i rc M7 e7 g7 q7 l7
  have st7 := (st5.kpN q6).kpN q7
  have c7 := q7.at (q6.at c5 id) id
  have a7 := q7.at (q6.at g5 id) id
  have b7 := q7.at (q6.at d5 id) id
  have zc := lt_of (q6.at c5 id)
  have za := lt_of (q6.at g5 id)
  have zb := lt_of (q6.at d5 id)
  have z6 := (st5.kpN q6).lt
  have hco := st5.co
  have hop := st5.op
  have hpr := st5.pr
  have kk7 : Kp NoW M M7 := ((((kk3.tr q4).tr q5).tr q6).tr q7)
  have hM7 := kk7.1
  have hM6 : M.length ≤ M6.length := ((((kk3.tr q4).tr q5).tr q6)).1
  generalize hPR : (ord.zipIdx.map fun p => pRow cls ord R (linesOf O) p.1 p.2) = PR
  have hPl : PR.length = ord.length := by rw [← hPR]; simp
  have hLN : (O.map fun s => s.2.length).foldl max 0 = linesOf O := rfl
  rw [hLN]
  refine wq_for (fun i env M' => ∃ (x7 x8 x9 x10 x11 x12 : Option Dv), env = [some (tabD t), some (.loc c), some (.loc kc), some (.loc a), some (.loc b), some (.int (linesOf O : Nat)), some (.loc rc), x7, x8, x9, x10, x11, x12, none, none, none] ∧ M'[rc]? = some (.lst ((PR.take i).map rowD)) ∧ Kp (At rc) M7 M') ?_
  array_get_dec
  refine k_enumL a7 ?_
  refine k_forEL (fun i env M' hh => by obtain ⟨_, _, _, _, _, _, _, _, hh⟩ := hh; exact hh.at a7 (by show ¬ a = rc; omega)) ⟨none, none, none, none, none, none, rfl, g7, .refl⟩ ?_ ?_
  · rintro i d env M8 hd ⟨x7, x8, x9, x10, x11, x12, rfl, r8, q8⟩
    have hi : i < ord.length := by have := (List.getElem?_eq_some_iff.mp hd).1; unfold intsN at this; rw [List.length_map] at this; exact this
    have ei : ord[i]? = some ord[i] := List.getElem?_eq_getElem hi
    have ed : d = .int ((ord[i] : Nat) : Int) := by rw [ints_at ei] at hd; cases hd; rfl
    subst ed
    obtain ⟨⟨w1, w2⟩, w3⟩ := o7 ord[i] (List.getElem_mem hi)
    have er : R[ord[i]]? = some (R.getD ord[i] (0, 0, [])) := by rw [List.getD_eq_getElem?_getD, List.getElem?_eq_getElem w1]; rfl
    have hw := List.mem_of_getElem? er
    have eP : PR[i]? = some (pRow cls ord R (linesOf O) ord[i] i) := by
      rw [← hPR, List.getElem?_map, List.getElem?_zipIdx, ei]; simp
    obtain ⟨n, hn⟩ : ∃ n, ls[ord[i]]? = some n := ⟨ls[ord[i]]'(by have := st5.hn; omega), List.getElem?_eq_getElem _⟩
    unfold pRow at eP
    generalize hgw : R.getD ord[i] (0, 0, []) = w at *
    have wq := o6 w hw
    have nl : n < M6.length := z6.2 n (List.mem_of_getElem? hn)
    have st8 : StAt c o p r O R ls M8 := st7.kp q8 fun x e => by
      have e' : x = rc := e
      refine ⟨by omega, by omega, by omega, by omega, fun hx => ?_⟩
      have := z6.2 x hx
      omega
    have hc8 := st8.hc
    have hr8 := st8.hr
    have hl8 := st8.hl _ _ _ hn er
    have c8 := q8.at c7 (show ¬ kc = rc by omega)
    have b8 := q8.at b7 (show ¬ b = rc by omega)
    have ez : (List.zipWith srD R ls)[ord[i]]? = some (.tup [.int (w.1 : Nat), .int (w.2.1 : Nat), .loc n]) := by rw [List.getElem?_zipWith, er, hn]; rfl
    have look : ∀ g, g < R.length → cl cls g ∈ ord.map (cl cls) → valD (enK (ord.map (cl cls))) (.inl ((cl cls g : Nat) : Int)) = some (.int ((numOf cls ord g : Nat) : Int)) := by
      intro g _ hg
      rw [val_enK, if_pos hg]; rfl
    have clat : ∀ g, g < R.length → (intsN cls)[g]? = some (.int ((cl cls g : Nat) : Int)) := fun g hg => ints_at (getD_at (by omega))
    array_get_dec
    refine wq_map (fun x => match x with | .int j => .int ((numOf cls ord j.toNat : Nat) : Int) | _ => .non) ?_
    array_get_dec
    refine k_mapL hl8 (size_le (by unfold intsN; rw [List.length_map]; have := wq.1.2; omega)) ?_ ?_
    · intro y hy M9 q9
      obtain ⟨g, hg, rfl⟩ := List.mem_map.mp hy
      have hgR := wq.2 g hg
      have c9 := q9.at c8 id
      have eg := clat g hgR
      array_get_dec
      refine wp_ixK (q9.at b8 id) (k := .inl ((cl cls g : Nat) : Int)) rfl (look g hgR (w3 g hg)) ?_
      exact ⟨rfl, .refl⟩
    · intro n9 M9 e9 l9 q9 g9
      have g9' : M9[n9]? = some (.lst (intsN (w.2.2.map (numOf cls ord)))) := by
        rw [g9]; unfold intsN; rw [List.map_map, List.map_map]; rfl
      have c9 := q9.at c8 id
      have r9 := q9.at r8 id
      have b9 := q9.at b8 id
      have ea := clat _ wq.1.1
      clear g9
      array_get_dec
      refine wp_ixK b9 (k := .inl ((cl cls w.2.1 : Nat) : Int)) rfl (look _ wq.1.1 w2) ?_
      array_get_dec
      rename_i nA MA eA gA qA lA
      have hsub : ((linesOf O : Nat) : Int) - ((intsN (w.2.2.map (numOf cls ord))).length : Nat) = ((linesOf O - w.2.2.length : Nat) : Int) := by
        have := wq.1.2
        unfold intsN
        rw [List.length_map, List.length_map]
        omega
      rw [hsub]
      refine wq_mulL gA (by show 1 ≤ 16; decide) (by omega) ?_
      array_get_dec
      rename_i nB MB eB gB qB lB
      refine wq_addL (qB.at (qA.at g9' id) id) gB (by have := wq.1.2; unfold intsN; simp; omega) ?_
      array_get_dec
      rename_i nC MC eC gC qC lC
      refine wq_append (qC.at (qB.at (qA.at r9 id) id) id) (size_lt (by rw [List.length_map, List.length_take]; omega)) ?_
      array_get_dec
      rename_i MD gD qD lD
      have hM8 := q8.1
      refine ⟨_, _, _, _, _, _, rfl, ?_, ((((q8.trN q9).trN qA).trN qB).trN qC).trans qD fun n _ e => e⟩
      rw [gD, take_succ_of eP, List.map_append]
      congr 3
      show [_] = [rowD _]
      unfold rowD
      simp only
      have ef : intsN (w.2.2.map (numOf cls ord)) ++ (List.replicate (linesOf O - w.2.2.length) [Dv.int (i : Nat)]).flatten = intsN (w.2.2.map (numOf cls ord) ++ List.replicate (linesOf O - w.2.2.length) i) := by
        unfold intsN
        rw [List.map_append, List.map_replicate, List.flatten_replicate_singleton]
      rw [ef]
  · rintro env M8 ⟨x7, x8, x9, x10, x11, x12, rfl, r8, q8⟩
    rw [List.take_of_length_le (by unfold intsN; rw [List.length_map]; omega)] at r8
    array_get_dec
    refine ⟨rfl, kk7.trans q8 ?_⟩
    intro n hn e
    have e' : n = rc := e
    omega
end L54

/-! text D11_54 -/
namespace L54
open PySem L2 PySem.Spec PyProof.Rows Zl
/-! ## the tables of the law -/
def tb (l : Nat) (rs : List SRow) : Tb := ⟨l, rs.map fun r => ⟨r.1, r.2.1, r.2.2⟩⟩
def tQueue : Tb := tb 2 [(0, 1, [0, 0]), (1, 2, [1, 1]), (0, 3, [2, 2]), (1, 2, [3, 3])]
def tSingle : Tb := tb 1 [(0, 1, [0]), (0, 1, [1])]
def tRecent : Tb := tb 2 [(0, 1, [0, 0]), (1, 2, [1, 1]), (0, 3, [3, 2]), (1, 2, [3, 2])]
def tLast : Tb := tb 2 [(0, 1, [0, 0]), (1, 2, [1, 1]), (1, 2, [3, 2]), (0, 3, [3, 2])]
def tMru : Tb := tb 2 [(0, 1, [0, 0]), (1, 2, [1, 1]), (1, 2, [2, 2])]
def tBoth : Tb := tb 2 [(0, 1, [0, 0]), (1, 2, [3, 1]), (0, 2, [2, 2]), (1, 4, [3, 3]), (1, 4, [4, 4])]
def tLate : Tb := tb 2 [(0, 1, [0, 0]), (0, 1, [2, 1]), (1, 3, [2, 2]), (0, 3, [4, 4]), (1, 3, [4, 4])]
def firstP : List (Tb × Tb) := [(tb 2 [(0, 1, [0, 0]), (1, 0, [1, 1])], tQueue), (tb 2 [(1, 1, [0, 0]), (0, 0, [1, 1])], tQueue), (tb 3 [(0, 1, [0, 0, 0]), (2, 0, [1, 1, 1])], tQueue), (tb 2 [(0, 1, [2, 0]), (1, 2, [1, 1]), (0, 1, [0, 2])], tQueue),
  (tb 2 [(0, 1, [0, 0]), (1, 0, [1, 1]), (1, 2, [0, 1])], tQueue), (tb 1 [(0, 0, [0])], tSingle), (tb 1 [(0, 1, [1]), (0, 0, [0])], tSingle), (tb 2 [(0, 0, [0, 0])], tSingle), (tb 4 [(3, 1, [0, 1, 0, 1]), (3, 0, [1, 1, 1, 0])], tSingle)]
def secondP : List (Tb × Tb) := [(tb 2 [(0, 1, [1, 0]), (1, 0, [1, 0])], tRecent), (tb 2 [(1, 1, [0, 1]), (0, 0, [0, 1])], tRecent), (tLast, tLast), (tMru, tMru), (tb 2 [(0, 1, [0, 0]), (1, 2, [3, 1]), (0, 2, [2, 2]), (1, 3, [3, 3])], tBoth),
  (tb 2 [(0, 0, [1, 1]), (1, 0, [1, 1])], tLate), (tb 2 [(1, 0, [1, 1]), (0, 0, [1, 1])], tLate)]
def okTB (t : Tb) : Bool := decide (1 ≤ t.l) && decide (t.l ≤ 4) && decide (1 ≤ t.rows.length) && decide (t.rows.length ≤ 64) && t.rows.all fun r => decide (r.v < t.l) && decide (r.s < t.rows.length) && decide (r.hits.length = t.l) && r.hits.all fun h => decide (h < t.rows.length)
theorem okT_of {t : Tb} (h : okTB t = true) : OkT t := by
  unfold okTB at h
  simp only [Bool.and_eq_true, decide_eq_true_eq, List.all_eq_true] at h
  obtain ⟨⟨⟨⟨h1, h2⟩, h3⟩, h4⟩, h5⟩ := h
  exact ⟨h1, h2, h3, h4, fun r hr => ⟨(h5 r hr).1.1.1, (h5 r hr).1.1.2, (h5 r hr).1.2, (h5 r hr).2⟩⟩
def okPair (p : Tb × Tb) : Bool := okTB p.1 && okTB p.2 && decide (plainF p.1 = some p.2) && decide (plainF p.2 = some p.2)
theorem all_pairs : (firstP ++ secondP).all okPair = true := by decide +kernel
end L54

/-! text D12_54 -/
namespace L54
open PySem L2 PySem.Spec PyProof.Rows Zl
def pairD (p : Tb × Tb) : Dv := .tup [tabD p.1, tabD p.2]
theorem sp_first {M : Mem} : Wp (m__law_first [] M) fun d M' => ∃ n, d = .loc n ∧ M'[n]? = some (.lst (firstP.map pairD)) ∧ Kp NoW M M' := by
  refine wp_fn rfl [none, none, none] rfl ?_
  unfold b__law_first
  array_get_dec
  rename_i n1 M1 e1 g1 q1 l1
  refine wq_append g1 (size_lt (by simp)) ?_
  array_get_dec
  rename_i M2 g2 q2 l2
  refine wq_append g2 (size_lt (by simp)) ?_
  array_get_dec
  rename_i M3 g3 q3 l3
  refine wq_append g3 (size_lt (by simp)) ?_
  array_get_dec
  rename_i nZ MZ eZ gZ qZ lZ
  exact ⟨_, rfl, gZ, by array_mem_dec⟩
theorem sp_second {M : Mem} : Wp (m__law_second [] M) fun d M' => ∃ n, d = .loc n ∧ M'[n]? = some (.lst (secondP.map pairD)) ∧ Kp NoW M M' := by
  refine wp_fn rfl [none, none, none, none, none] rfl ?_
  unfold b__law_second
  array_get_dec
  rename_i n1 M1 e1 g1 q1 l1
  refine wp_mulT (k := 2) (by decide) (by decide) ?_
  array_get_dec
  rename_i nY MY eY gY qY lY
  refine wq_append gY (size_lt (by simp)) ?_
  array_get_dec
  rename_i nZ MZ eZ gZ qZ lZ
  exact ⟨_, rfl, gZ, by array_mem_dec⟩
end L54

/-! text D14_54 -/
namespace L54
open PySem L2 PySem.Spec PyProof.Rows Zl
/-! ## tables as data -/
def intsP (o : List Nat) : List PyData := o.map fun n => PyData.int (n : Nat)
theorem rd_intsP {M : Mem} {k : Nat} : ∀ o : List Nat, rdL (rd M k) (intsN o) = some (intsP o)
  | [] => rfl
  | n :: o => rdL_cons (by cases k <;> rfl) (rd_intsP o)
def rowP (r : Row) : PyData := .tuple [.int (r.v : Nat), .int (r.s : Nat), .tuple (intsP r.hits)]
def tabP (t : Tb) : PyData := .tuple [.int (t.l : Nat), .tuple (t.rows.map rowP)]
theorem rd_row {M : Mem} {k : Nat} {r : Row} : rd M (k + 2) (rowD r) = some (rowP r) :=
  rd_tup (rdL_cons rfl (rdL_cons rfl (rdL_cons (rd_tup (rd_intsP _)) rdL_nil)))
theorem rd_rows {M : Mem} {k : Nat} : ∀ rs : List Row, rdL (rd M (k + 2)) (rs.map rowD) = some (rs.map rowP)
  | [] => rfl
  | _ :: rs => rdL_cons rd_row (rd_rows rs)
theorem rd_tab {M : Mem} {k : Nat} {t : Tb} : rd M (k + 4) (tabD t) = some (tabP t) :=
  rd_tup (rdL_cons rfl (rdL_cons (rd_tup (rd_rows _)) rdL_nil))
theorem sm_ints {k n : Nat} {o : List Nat} (h : ∀ x ∈ o, x ≤ 3000) (hl : o.length ≤ n) : Sm (k + 1) (n + n) (.tuple (intsP o)) := by
  have := smA_all (k := k) (n := 1) (ps := intsP o) fun p hp => by
    obtain ⟨x, hx, rfl⟩ := List.mem_map.mp hp
    exact sm_nat (h x hx)
  refine (sm_tuple this).mono (Nat.le_refl _) ?_
  unfold intsP
  rw [List.length_map]
  omega
theorem sm_row {l n : Nat} {r : Row} (h : OkR l n r) (hl : l ≤ 4) (hn : n ≤ 64) : Sm 2 20 (rowP r) := by
  obtain ⟨h1, h2, h3, h4⟩ := h
  exact (sm_tuple (smA_cons (sm_nat (k := 1) (n := 1) (by omega)) (smA_cons (sm_nat (k := 1) (n := 1) (by omega)) (smA_cons (sm_ints (k := 0) (n := 4) (fun x hx => by have := h4 x hx; omega) (by omega)) (smA_nil (n := 0)))))).mono (by omega) (by omega)
theorem sm_tab {t : Tb} (h : OkT t) : Sm 4 2000 (tabP t) := by
  have hr := smA_all (k := 2) (n := 20) (ps := t.rows.map rowP) fun p hp => by
    obtain ⟨r, hr, rfl⟩ := List.mem_map.mp hp
    exact sm_row (h.ok r hr) h.l4 h.r64
  have h4 := h.l4
  have h64 := h.r64
  refine (sm_tuple (smA_cons (sm_nat (k := 3) (n := 1) (by omega)) (smA_cons (sm_tuple hr) (smA_nil (n := 0))))).mono (by omega) ?_
  rw [List.length_map]
  omega
end L54

/-! text D13_54 -/
namespace L54
open PySem L2 PySem.Spec PyProof.Rows Zl
theorem pair_ok {p : Tb × Tb} (h : p ∈ firstP ++ secondP) : OkT p.1 ∧ OkT p.2 ∧ plainF p.1 = some p.2 ∧ plainF p.2 = some p.2 := by
  have := List.all_eq_true.mp all_pairs p h
  unfold okPair at this
  simp only [Bool.and_eq_true, decide_eq_true_eq] at this
  exact ⟨okT_of this.1.1.1, okT_of this.1.1.2, this.1.2, this.2⟩
theorem four {x : Dv} : (List.replicate 4 [x]).flatten = [x, x, x, x] := rfl
theorem sp_right {p : Nat} {M : Mem} (h : Pool p M) : Wp (m__law_right [.loc p] M) fun d M' => d = .bl true ∧ Kp (At p) M M' := by
  refine wp_fn rfl [some (.loc p), none, none, none, none, none] rfl ?_
  unfold b__law_right
  array_get_dec
  refine sp_first.go ?_
  rintro _ M1 ⟨n1, rfl, g1, q1⟩
  array_get_dec
  refine sp_second.go ?_
  rintro _ M2 ⟨n2, rfl, g2, q2⟩
  array_get_dec
  rename_i n3 M3 e3 g3 q3 l3
  rw [← List.map_append] at g3
  have hp := h.lt
  have hM1 := q1.1
  have hM2 := q2.1
  refine wq_for (fun i env M' => ∃ (x2 x3 x4 x5 : Option Dv), env = [some (.loc p), some (.loc n3), x2, x3, x4, x5] ∧ M'[n3]? = some (.lst ((firstP ++ secondP).map pairD)) ∧ Pool p M' ∧ Kp (At p) M M') ?_
  array_get_dec
  refine k_forR ⟨none, none, none, none, rfl, g3, ((h.kp q1).kp q2).kp q3, ((((Kp.refl (W := At p)).trN q1).trN q2).trN q3)⟩ ?_ ?_
  · rintro i env M4 hi ⟨x2, x3, x4, x5, rfl, g4, P4, q4⟩
    have hM4 := q4.1
    array_get_dec
    refine (sp_draw P4 (by show (0 : Int) < 16; decide) (by show (16 : Int) < _; decide)).go ?_
    rintro _ M5 ⟨⟨v, rfl, hv⟩, P5, q5⟩
    have hv' : v < (firstP ++ secondP).length := by
      have : ((v : Nat) : Int) < 16 := hv
      show v < 16; omega
    obtain ⟨pr, epr⟩ : ∃ pr, (firstP ++ secondP)[v]? = some pr := ⟨_, List.getElem?_eq_getElem hv'⟩
    obtain ⟨k1, k2, k3, k4⟩ := pair_ok (List.mem_of_getElem? epr)
    have ix : ((firstP ++ secondP).map pairD)[v]? = some (.tup [tabD pr.1, tabD pr.2]) := by rw [List.getElem?_map, epr]; rfl
    have hn3 : ¬ At p n3 := by show ¬ n3 = p; omega
    have g5 := q5.at g4 hn3
    array_get_dec
    refine (sp_plain k1 k3).go ?_
    rintro _ M6 ⟨rfl, q6⟩
    array_get_dec
    refine wp_callK ?_
    array_get_dec
    refine ⟨⟨rfl, rfl⟩, ?_⟩
    refine (sp_plain k1 k3).go ?_
    rintro _ M7 ⟨rfl, q7⟩
    array_get_dec
    refine (sp_plain k2 k4).go ?_
    rintro _ M8 ⟨rfl, q8⟩
    array_get_dec
    refine (sp_plain k1 k3).go ?_
    rintro _ M9 ⟨rfl, q9⟩
    array_get_dec
    refine (sp_plain k2 k4).go ?_
    rintro _ MA ⟨rfl, qA⟩
    array_get_dec
    rename_i nB MB eB gB qB lB
    have sT := sm_tab k2
    have sL : Sm 5 8010 (.list [tabP pr.2, tabP pr.2, tabP pr.2, tabP pr.2]) := (sm_list (smA_cons sT (smA_cons sT (smA_cons sT (smA_cons sT (smA_nil (n := 0))))))).mono (by omega) (by omega)
    have rL : ∀ {Mx : Mem} {nx : Nat}, Mx[nx]? = some (.lst [tabD pr.2, tabD pr.2, tabD pr.2, tabD pr.2]) → rd Mx deep (.loc nx) = some (.list [tabP pr.2, tabP pr.2, tabP pr.2, tabP pr.2]) := fun hx => rd_loc (n := 29) hx (rdL_cons (rd_tab (k := 25)) (rdL_cons (rd_tab (k := 25)) (rdL_cons (rd_tab (k := 25)) (rdL_cons (rd_tab (k := 25)) rdL_nil))))
    obtain ⟨s, hs⟩ : ∃ s, (PyData.list [tabP pr.2, tabP pr.2, tabP pr.2, tabP pr.2]).shown = s := ⟨_, rfl⟩
    refine wq_repr rfl (rL gB) sL (by omega) (by omega) ?_
    rw [hs]
    array_get_dec
    rename_i nC MC eC gC qC lC
    refine wq_mulL (k := 4) gC (by show 1 ≤ 16; decide) (by omega) ?_
    array_get_dec
    rename_i nD MD eD gD qD lD
    rw [four] at gD
    refine wq_repr rfl (rL gD) sL (by omega) (by omega) ?_
    rw [hs]
    clear hs
    array_get_dec
    refine ki_of (c := false) (by rw [beq_self_eq_true]; rfl) ?_
    array_get_dec
    refine ⟨_, _, _, _, rfl, ?_, ?_, ?_⟩
    · exact qD.at (qC.at (qB.at (qA.at (q9.at (q8.at (q7.at (q6.at g5 id) id) id) id) id) id) id) id
    · exact ((((((((P5.kp q6).kp q7).kp q8).kp q9).kp qA).kp qB).kp qC).kp qD)
    · exact (((((((((q4.tr q5).trN q6).trN q7).trN q8).trN q9).trN qA).trN qB).trN qC).trN qD)
  · rintro env M4 ⟨x2, x3, x4, x5, rfl, g4, P4, q4⟩
    array_get_dec
    exact ⟨rfl, q4⟩
end L54

/-! text D15_54 -/
namespace L54
open PySem L2 PySem.Spec PyProof.Rows Zl
/-! ## the lists of the law's own texts -/
def shT (t : Tb) : Str := (tabP t).shown
theorem wq_shT {t : Tb} {M : Mem} {q : QE} (h : OkT t) (c : q (.str (shT t)) M) : Wp (reprE [tabD t] M) q :=
  wq_repr (x := .tup [.int (t.l : Nat), .tup (t.rows.map rowD)]) rfl (rd_tab (k := 26)) (sm_tab h) (by omega) (by omega) c
def shows (ps : List (Tb × Tb)) : List Dv := ps.map fun p => .str (shT p.2)
def showsP (ps : List (Tb × Tb)) : List PyData := ps.map fun p => .str (shT p.2)
theorem rd_shows {M : Mem} {k : Nat} : ∀ ps : List (Tb × Tb), rdL (rd M k) (shows ps) = some (showsP ps)
  | [] => rfl
  | _ :: ps => rdL_cons (by cases k <;> rfl) (rd_shows ps)
theorem range_map {α β : Type} (xs : List α) (φ : α → β) (z : β) : ((List.range xs.length).filter fun _ => true).map (fun i => ((xs[i]?).map φ).getD z) = xs.map φ := by
  rw [List.filter_eq_self.mpr fun _ _ => rfl]
  refine List.ext_getElem? fun i => ?_
  rw [List.getElem?_map, List.getElem?_map]
  by_cases hi : i < xs.length
  · rw [List.getElem?_range hi, List.getElem?_eq_getElem hi]
    show some (((xs[i]?).map φ).getD z) = _
    rw [List.getElem?_eq_getElem hi]; rfl
  · rw [List.getElem?_eq_none (by simpa using hi), List.getElem?_eq_none (by simpa using hi)]; rfl
abbrev gTwo : FG := gOr (gT 2 (gsCons (gN 1) (gsCons (gN 2) gsNil))) (gL 2 (gsCons (gN 1) (gsCons (gN 2) gsNil)))
theorem sp_told {ps : List (Tb × Tb)} (ok : ∀ p ∈ ps, OkT p.1 ∧ OkT p.2 ∧ plainF p.1 = some p.2 ∧ plainF p.2 = some p.2) (hl : ps.length ≤ 100) {mf : FF} (hm : ∀ {M : Mem}, Wp (mf [] M) fun d M' => ∃ n, d = .loc n ∧ M'[n]? = some (.lst (ps.map pairD)) ∧ Kp NoW M M')
    {x0 x1 x2 x3 : Option Dv} {M : Mem} {q : QE} (hq : ∀ n M2, Kp NoW M M2 → M2[n]? = some (.lst (shows ps)) → q (.loc n) M2) :
    Wp (fComp (fSrc (fCall 0 mf fNil)) [1, 2] gTwo fYes (fC reprE (fCons (fCall 1 m_plain (fCons (fV 1) fNil)) fNil)) [x0, x1, x2, x3] M) q := by
  refine wq_lcG (fun _ => true) (fun i => ((ps[i]?).map fun p => Dv.str (shT p.2)).getD .non) ?_
  array_get_dec
  refine hm.go ?_
  rintro _ M1 ⟨n1, rfl, g1, q1⟩
  array_get_dec
  refine ⟨by show (ps.map pairD).length ≤ _; rw [List.length_map]; omega, ?_, ?_, ?_⟩
  · intro i M6 q6 hi
    have hi' : i < ps.length := by have : i < (ps.map pairD).length := hi; simpa using this
    have eO : ps[i]? = some ps[i] := List.getElem?_eq_getElem hi'
    obtain ⟨k1, k2, k3, k4⟩ := ok _ (List.getElem_mem hi')
    refine ⟨.tup [tabD ps[i].1, tabD ps[i].2], by show stpL n1 i M6 = _; rw [stpL_at (q6.at g1 id), List.getElem?_map, eO]; rfl, ?_⟩
    array_get_dec
    refine wp_ev (a := true) (M' := M6) rfl ⟨rfl, .refl, fun _ => ?_⟩
    array_get_dec
    refine (sp_plain k1 k3).go ?_
    rintro _ M7 ⟨rfl, q7⟩
    array_get_dec
    refine wq_shT k2 ⟨?_, q7⟩
    rw [eO]; rfl
  · intro M6 q6
    show stpL n1 (ps.map pairD).length M6 = _
    rw [stpL_at (q6.at g1 id), List.getElem?_eq_none (Nat.le_refl _)]
  intro nx M6 e6 l6 q6 g6
  refine hq nx M6 (q1.trN q6) ?_
  rw [g6]
  show some (Ob.lst (((List.range (ps.map pairD).length).filter fun _ => true).map _)) = _
  rw [List.length_map]
  exact congrArg (fun l => some (Ob.lst l)) (range_map ps (fun p => Dv.str (shT p.2)) .non)
theorem sp_due {ps : List (Tb × Tb)} (ok : ∀ p ∈ ps, OkT p.1 ∧ OkT p.2 ∧ plainF p.1 = some p.2 ∧ plainF p.2 = some p.2) (hl : ps.length ≤ 100) {mf : FF} (hm : ∀ {M : Mem}, Wp (mf [] M) fun d M' => ∃ n, d = .loc n ∧ M'[n]? = some (.lst (ps.map pairD)) ∧ Kp NoW M M')
    {x0 x1 x2 x3 : Option Dv} {M : Mem} {q : QE} (hq : ∀ n M2, Kp NoW M M2 → M2[n]? = some (.lst (shows ps)) → q (.loc n) M2) :
    Wp (fComp (fSrc (fCall 0 mf fNil)) [1, 2] gTwo fYes (fC reprE (fCons (fV 2) fNil)) [x0, x1, x2, x3] M) q := by
  refine wq_lcG (fun _ => true) (fun i => ((ps[i]?).map fun p => Dv.str (shT p.2)).getD .non) ?_
  array_get_dec
  refine hm.go ?_
  rintro _ M1 ⟨n1, rfl, g1, q1⟩
  array_get_dec
  refine ⟨by show (ps.map pairD).length ≤ _; rw [List.length_map]; omega, ?_, ?_, ?_⟩
  · intro i M6 q6 hi
    have hi' : i < ps.length := by have : i < (ps.map pairD).length := hi; simpa using this
    have eO : ps[i]? = some ps[i] := List.getElem?_eq_getElem hi'
    obtain ⟨k1, k2, k3, k4⟩ := ok _ (List.getElem_mem hi')
    refine ⟨.tup [tabD ps[i].1, tabD ps[i].2], by show stpL n1 i M6 = _; rw [stpL_at (q6.at g1 id), List.getElem?_map, eO]; rfl, ?_⟩
    array_get_dec
    refine wp_ev (a := true) (M' := M6) rfl ⟨rfl, .refl, fun _ => ?_⟩
    array_get_dec
    refine wq_shT k2 ⟨?_, .refl⟩
    rw [eO]; rfl
  · intro M6 q6
    show stpL n1 (ps.map pairD).length M6 = _
    rw [stpL_at (q6.at g1 id), List.getElem?_eq_none (Nat.le_refl _)]
  intro nx M6 e6 l6 q6 g6
  refine hq nx M6 (q1.trN q6) ?_
  rw [g6]
  show some (Ob.lst (((List.range (ps.map pairD).length).filter fun _ => true).map _)) = _
  rw [List.length_map]
  exact congrArg (fun l => some (Ob.lst l)) (range_map ps (fun p => Dv.str (shT p.2)) .non)
theorem sh_first : SeqAt.shaped (.list (showsP firstP)) = true := by decide +kernel
theorem sh_second : SeqAt.shaped (.list (showsP secondP)) = true := by decide +kernel
theorem sp_same {ps : List (Tb × Tb)} (ok : ∀ p ∈ ps, OkT p.1 ∧ OkT p.2 ∧ plainF p.1 = some p.2 ∧ plainF p.2 = some p.2) (hl : ps.length ≤ 100) (hs : SeqAt.shaped (.list (showsP ps)) = true) {mf : FF} (hm : ∀ {M : Mem}, Wp (mf [] M) fun d M' => ∃ n, d = .loc n ∧ M'[n]? = some (.lst (ps.map pairD)) ∧ Kp NoW M M')
    {x0 x1 x2 x3 : Option Dv} {M : Mem} {q : QE} (hq : ∀ M2, Kp NoW M M2 → q (.bl false) M2) :
    Wp (fComp (fSrc (fCall 0 mf fNil)) [1, 2] gTwo fYes (fC reprE (fCons (fCall 1 m_plain (fCons (fV 1) fNil)) fNil)) [x0, x1, x2, x3] M) fun x M1 => Wp (fComp (fSrc (fCall 0 mf fNil)) [1, 2] gTwo fYes (fC reprE (fCons (fV 2) fNil)) [x0, x1, x2, x3] M1) fun y M2 => Wp (eqD true x y M2) q := by
  refine sp_told ok hl hm fun n1 M1 k1 g1 => ?_
  refine sp_due ok hl hm fun n2 M2 k2 g2 => ?_
  refine wq_eqD (p := .list (showsP ps)) (q := .list (showsP ps)) (rd_loc (n := 29) (k2.at g1 id) (rd_shows ps)) (rd_loc (n := 29) g2 (rd_shows ps)) hs hs ?_
  rw [SeqAt.eqv_refl _ (SeqAt.canLay_of_shaped hs)]
  exact hq M2 (k1.trN k2)
theorem math : ∀ ns : List Int, ns.length ≤ 63 → ∃ M', m_law [.rol (ns.map .int)] [] = some (.bl true, M') := by
  intro ns hns
  have h : Wp (m_law [.rol (ns.map .int)] []) fun d _ => d = .bl true := by
    refine wp_fn rfl [some (.rol (ns.map .int)), none, none, none] rfl ?_
    unfold b_law
    array_get_dec
    refine sp_same (ps := firstP) (fun p hp => pair_ok (List.mem_append_left _ hp)) (by decide) sh_first sp_first fun M1 k1 => ?_
    array_get_dec
    refine sp_same (ps := secondP) (fun p hp => pair_ok (List.mem_append_right _ hp)) (by decide) sh_second sp_second fun M2 k2 => ?_
    array_get_dec
    refine wq_map (fun _ => .bl true) ?_
    array_get_dec
    have hlen : ((ns.map Dv.int).length : Nat) = ns.length := by simp
    refine wp_ev (a := .int (min ns.length 6 : Nat)) (M' := M2) ?_ ?_
    · unfold minD
      simp only [hlen]
      congr 3
      split <;> omega
    array_get_dec
    refine wp_ev (a := .int (max 2 (min ns.length 6) : Nat)) (M' := M2) ?_ ?_
    · unfold maxD
      simp only
      congr 3
      split <;> omega
    array_get_dec
    refine k_mapR (size_le (by omega)) ?_ ?_
    · intro j hj M2 k2
      array_get_dec
      refine (sp_cell (k := j) (by omega)).go ?_
      rintro _ M3 ⟨⟨x, rfl⟩, k3⟩
      array_get_dec
      refine sp_pool.go ?_
      rintro _ M4 ⟨p, rfl, ep, hp, k4⟩
      array_get_dec
      refine (sp_right hp).go ?_
      rintro _ M5 ⟨rfl, k5⟩
      exact ⟨rfl, by array_mem_dec⟩
    · intro n M2 e2 l2 k2 g2
      array_get_dec
      refine wp_all g2 (bls_all (by simp)) ?_
      array_get_dec
      simp
  obtain ⟨d, M, e, rfl⟩ := h
  exact ⟨M, e⟩
end L54

open PySem PySem.W PyProof.Rows in
set_option maxRecDepth 100000 in
set_option maxHeartbeats 0 in
theorem PySem.Challenge.cw_missbounds_k54_plain_forms_by_hand_holds : PySem.Challenge.rw_missbounds_k54_plain_forms_by_hand.Holds := by
  w_on; o_law; k_head; (case hw => w_witness2)
  k_fill
  refine Zl.walk_end (l := PySem.Challenge.rw_missbounds_k54_plain_forms_by_hand) (k := 8) (x := "_law_script") (F := L54.m_law) rfl rfl ⟨rfl, by decide, by decide⟩ (fun w h Y => PySem.W.kIn_of Y) ?T L54.math
  intro w mg fa h KX G hmg
  refine' Exists.elim (L54.all_mk KX G hmg ?aC_Stages ?pg_Stages ?hd_Stages ?po_Stages ?sa_Stages ?a_firsts_of ?l_firsts_of ?c_firsts_of ?k_firsts_of ?a_numbered ?l_numbered ?c_numbered ?k_numbered ?a_classes_of ?l_classes_of ?c_classes_of ?k_classes_of ?a_after_hits ?l_after_hits ?c_after_hits ?k_after_hits ?a_Stages_place_of ?i_Stages_place_of ?l_Stages_place_of ?c_Stages_place_of ?k_Stages_place_of ?a_after_miss ?l_after_miss ?c_after_miss ?k_after_miss ?a_Stages_init ?i_Stages_init ?mk_Stages ?kc_Stages ?l_Stages_init ?c_Stages_init ?k_Stages_init ?a_is_integer ?l_is_integer ?c_is_integer ?k_is_integer ?a_is_between ?l_is_between ?c_is_between ?k_is_between ?a_is_row ?l_is_row ?c_is_row ?k_is_row ?a_is_policy ?l_is_policy ?c_is_policy ?k_is_policy ?a_check_policy ?l_check_policy ?c_check_policy ?k_check_policy ?a_plain ?l_plain ?c_plain ?k_plain ?a__law_draw ?l__law_draw ?c__law_draw ?k__law_draw ?a__law_first ?l__law_first ?c__law_first ?k__law_first ?a__law_second ?l__law_second ?c__law_second ?k__law_second ?a__law_right ?l__law_right ?c__law_right ?k__law_right ?a__law_pool ?l__law_pool ?c__law_pool ?k__law_pool ?a__law_cell ?l__law_cell ?c__law_cell ?k__law_cell ?a_law ?l_law ?c_law ?k_law ?na_Stages_order ?na_Stages_places ?na_Stages_rows ?z_abs ?z_all ?z_bool ?z_divmod ?z_enumerate ?z_int ?z_isinstance ?z_len ?z_max ?z_min ?z_range ?z_repr ?z_set ?z_tuple ?z_zip ?g_MOST_LINES ?g_MOST_STATES) ?fin
  (case aC_Stages => k_is)
  (case pg_Stages => k_is)
  (case hd_Stages => k_is)
  (case po_Stages => k_is)
  (case sa_Stages => k_is)
  (case a_firsts_of => k_is)
  (case l_firsts_of => k_is)
  (case c_firsts_of => k_is)
  (case k_firsts_of => k_is)
  (case a_numbered => k_is)
  (case l_numbered => k_is)
  (case c_numbered => k_is)
  (case k_numbered => k_is)
  (case a_classes_of => k_is)
  (case l_classes_of => k_is)
  (case c_classes_of => k_is)
  (case k_classes_of => k_is)
  (case a_after_hits => k_is)
  (case l_after_hits => k_is)
  (case c_after_hits => k_is)
  (case k_after_hits => k_is)
  (case a_Stages_place_of => k_is)
  (case i_Stages_place_of => k_is)
  (case l_Stages_place_of => k_is)
  (case c_Stages_place_of => k_is)
  (case k_Stages_place_of => k_is)
  (case a_after_miss => k_is)
  (case l_after_miss => k_is)
  (case c_after_miss => k_is)
  (case k_after_miss => k_is)
  (case a_Stages_init => k_is)
  (case i_Stages_init => k_is)
  (case mk_Stages => k_is)
  (case kc_Stages => k_is)
  (case l_Stages_init => k_is)
  (case c_Stages_init => k_is)
  (case k_Stages_init => k_is)
  (case a_is_integer => k_is)
  (case l_is_integer => k_is)
  (case c_is_integer => k_is)
  (case k_is_integer => k_is)
  (case a_is_between => k_is)
  (case l_is_between => k_is)
  (case c_is_between => k_is)
  (case k_is_between => k_is)
  (case a_is_row => k_is)
  (case l_is_row => k_is)
  (case c_is_row => k_is)
  (case k_is_row => k_is)
  (case a_is_policy => k_is)
  (case l_is_policy => k_is)
  (case c_is_policy => k_is)
  (case k_is_policy => k_is)
  (case a_check_policy => k_is)
  (case l_check_policy => k_is)
  (case c_check_policy => k_is)
  (case k_check_policy => k_is)
  (case a_plain => k_is)
  (case l_plain => k_is)
  (case c_plain => k_is)
  (case k_plain => k_is)
  (case a__law_draw => k_is)
  (case l__law_draw => k_is)
  (case c__law_draw => k_is)
  (case k__law_draw => k_is)
  (case a__law_first => k_is)
  (case l__law_first => k_is)
  (case c__law_first => k_is)
  (case k__law_first => k_is)
  (case a__law_second => k_is)
  (case l__law_second => k_is)
  (case c__law_second => k_is)
  (case k__law_second => k_is)
  (case a__law_right => k_is)
  (case l__law_right => k_is)
  (case c__law_right => k_is)
  (case k__law_right => k_is)
  (case a__law_pool => k_is)
  (case l__law_pool => k_is)
  (case c__law_pool => k_is)
  (case k__law_pool => k_is)
  (case a__law_cell => k_is)
  (case l__law_cell => k_is)
  (case c__law_cell => k_is)
  (case k__law_cell => k_is)
  (case a_law => k_is)
  (case l_law => k_is)
  (case c_law => k_is)
  (case k_law => k_is)
  (case na_Stages_order => k_is)
  (case na_Stages_places => k_is)
  (case na_Stages_rows => k_is)
  (case z_abs => k_is)
  (case z_all => k_is)
  (case z_bool => k_is)
  (case z_divmod => k_is)
  (case z_enumerate => k_is)
  (case z_int => k_is)
  (case z_isinstance => k_is)
  (case z_len => k_is)
  (case z_max => k_is)
  (case z_min => k_is)
  (case z_range => k_is)
  (case z_repr => k_is)
  (case z_set => k_is)
  (case z_tuple => k_is)
  (case z_zip => k_is)
  (case g_MOST_LINES => k_is)
  (case g_MOST_STATES => k_is)
  case fin =>
    rintro T ⟨rfl, hb⟩
    exact ⟨T.ct _ _, T.d_law, hb, fun base _ _ => L54.ok_law T⟩
