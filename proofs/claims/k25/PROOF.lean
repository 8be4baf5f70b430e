import PyProof.Rows.All
import Wide.All
import OpenK.AllK
import Wide.FinOn
import HandS.ForMost
import HandS.ForExc
import HandS.Flow
import HandS.IsInst
import HandS.Wide
import HandS.TryMany
import HandS.ExcInit
import HandS.RaiseMore
import HandS.ExcCtx
import HandS.SuiteRaise
import HandS.ExcInitHot
import HandS.Deep
import KE.KExcIs
import HandS.ExcIs
import HandS.Defaults
import HandS.MakeKw
import HandS.MakeKwOnly
import HandS.ExcField
import HandS.Small
import HandS.Style
import HandS.Conv
import HandS.CallLocal
import HandS.WrittenGet
import PyProof.ReprRoads
import HandS.HeadHook3
import PyProof.MaxThree
import HandS.Text
import HandS.StrMore
import HandS.FStr
import PyProof.StrBlock2
import KE.IntTextLaws
import PyProof.CollectIter
import PyProof.Walks
import HandS.Zip0
import HandS.SortInts
import PySem.Challenge.RW_hintedpoints_k25_first_two_that_cross
set_option Elab.async false
set_option linter.all false
set_option maxRecDepth 100000
set_option maxHeartbeats 4000000
/-! DL: a layer of plain data trees over the hand layer: D (data without addresses), kept parts and cells, readings over D. -/
namespace DL
open PySem PySem.Spec PyProof.Rows L2

/-! ### data -/
inductive Kd where
  | lst | tup | klst
  | dct (ks : List Key)
  | obj (c : Str) (ns : List Str)
  | exc (c : Str) (ns : List Str)
  | cau (c : Str) (a C : Addr) (dd : Option Addr)
  deriving DecidableEq
inductive D where
  | non | bl (b : Bool) | int (i : Int) | str (x : Str) | ty (n : String) | glb (x : Str) | cell (n : Nat)
  | node (k : Kd) (xs : List D)
abbrev D.lst (xs : List D) : D := .node .lst xs
abbrev D.tup (xs : List D) : D := .node .tup xs

inductive Cell where
  | live (k : Kd) (xs : List D)
  | dead
abbrev Kap := Nat → Option Cell
def kset (κ : Kap) (n : Nat) (c : Cell) : Kap := fun m => if m = n then some c else κ m
theorem kset_same {κ : Kap} {n : Nat} {c : Cell} : kset κ n c n = some c := if_pos rfl
theorem kset_ne {κ : Kap} {n m : Nat} {c : Cell} (h : m ≠ n) : kset κ n c m = κ m := if_neg h
theorem kset_kset {κ : Kap} {n : Nat} {c d : Cell} : kset (kset κ n c) n d = kset κ n d := by
  funext m; unfold kset; split <;> rfl
theorem kne {κ : Kap} {n m : Nat} {c : Cell} (h : κ n = some c) (h' : κ m = none) : n ≠ m := by
  intro e; rw [e, h'] at h; cases h

abbrev DEnv := List (Option D)
abbrev DQ := D → Kap → Prop
abbrev DX := DEnv → Str → List D → Kap → Prop
structure DEnds where
  nx : DEnv → Kap → Prop
  rt : DQ
  bk : DEnv → Kap → Prop := fun _ _ => False
  ct : DEnv → Kap → Prop := fun _ _ => False
/-- readings over data: an expression's, a test's, an argument list's, a statement's -/
abbrev DE := DEnv → Kap → DX → DQ → Prop
abbrev DT := DEnv → Kap → DX → (Bool → Kap → Prop) → Prop
abbrev DA := DEnv → Kap → DX → (List D → Kap → Prop) → Prop
abbrev DS := DEnv → Kap → DX → DEnds → Prop
/-- what a def is worth, over data -/
abbrev DSp := List D → Kap → (Str → List D → Kap → Prop) → DQ → Prop

/-! ### how data lies in the abstract heap -/
structure Ctx where
  K : PySem.W.Frag
  mg : Str → Option Value
abbrev Loc0 := Nat → Option Addr

/-- names and values, in turn -/
def xflat : List (Str × V) → List V
  | [] => []
  | p :: r => V.str p.1 :: p.2 :: xflat r
def HoldK (C : Ctx) (F : Hp) (k : Kd) (a : Addr) (vs : List V) : Prop := match k with
  | .lst => F a = some (.lst vs)
  | .klst => SqL C.K F a vs
  | .tup => SqT C.K F a vs
  | .dct ks => ∃ kvs, F a = some (.dK kvs) ∧ kvs.map (·.1) = ks ∧ kvs.map (·.2) = vs
  | .obj c ns => ∃ (ca dx : Addr) (fs : List (Str × V)), C.mg c = some (.ref ca) ∧ F a = some (.ins ca dx fs) ∧ fs.map (·.1) = ns ∧ fs.map (·.2) = vs
  | .exc c ns => ∃ ca : Addr, C.mg c = some (.ref ca) ∧ ((ns = [] ∧ vs = [] ∧ F a = some (exo a ca none)) ∨ ∃ (d : Addr) (fs : List (Str × V)), F a = some (exo a ca (some d)) ∧ F d = some (exd d fs) ∧ fs.map (·.1) = ns ∧ fs.map (·.2) = vs)
  | .cau c a1 C1 dd => a = a1 ∧ C.mg c = some (.ref C1) ∧ ((dd = none ∧ vs = []) ∨ ∃ (d : Addr) (fs : List (Str × V)), dd = some d ∧ F d = some (.xd fs) ∧ vs = xflat fs)

mutual
inductive Rep (C : Ctx) (F : Hp) (ρ : Loc0) : D → V → Prop
  | non : Rep C F ρ .non .non
  | bl (b : Bool) : Rep C F ρ (.bl b) (.bl b)
  | int (i : Int) : Rep C F ρ (.int i) (.int i)
  | str (x : Str) : Rep C F ρ (.str x) (.str x)
  | ty (n : String) : Rep C F ρ (.ty n) (.ty n)
  | glb {x : Str} {a : Addr} (h : C.mg x = some (.ref a)) : Rep C F ρ (.glb x) (.ref a)
  | cell {n : Nat} {a : Addr} (h : ρ n = some a) : Rep C F ρ (.cell n) (.ref a)
  | node {k : Kd} {xs : List D} {a : Addr} {vs : List V} (h : HoldK C F k a vs) (r : RepL C F ρ xs vs) : Rep C F ρ (.node k xs) (.ref a)
inductive RepL (C : Ctx) (F : Hp) (ρ : Loc0) : List D → List V → Prop
  | nil : RepL C F ρ [] []
  | cons {d : D} {ds : List D} {v : V} {vs : List V} (h : Rep C F ρ d v) (t : RepL C F ρ ds vs) : RepL C F ρ (d :: ds) (v :: vs)
end

/-- the kept part and the cells' places only grow -/
structure Ext (F : Hp) (ρ : Loc0) (F' : Hp) (ρ' : Loc0) : Prop where
  f : ∀ a o, F a = some o → F' a = some o
  r : ∀ n a, ρ n = some a → ρ' n = some a
theorem Ext.refl (F : Hp) (ρ : Loc0) : Ext F ρ F ρ := ⟨fun _ _ h => h, fun _ _ h => h⟩
theorem Ext.trans {F F1 F2 : Hp} {ρ ρ1 ρ2 : Loc0} (a : Ext F ρ F1 ρ1) (b : Ext F1 ρ1 F2 ρ2) : Ext F ρ F2 ρ2 := ⟨fun x o h => b.f x o (a.f x o h), fun n x h => b.r n x (a.r n x h)⟩

section
variable {C : Ctx} {F F' : Hp} {ρ ρ' : Loc0}
theorem rd_ext (h : ∀ a o, F a = some o → F' a = some o) {a : Addr} {u : HO} (r : Rd F a u) : Rd F' a u := by
  rcases r with r | ⟨o, r⟩
  · exact .inl (h _ _ r)
  · exact .inr ⟨o, h _ _ r⟩
theorem sql_ext (h : ∀ a o, F a = some o → F' a = some o) {K : PySem.W.Frag} {a : Addr} {xs : List V} (r : SqL K F a xs) : SqL K F' a xs := by
  rcases r with r | r
  · exact .inl (rd_ext h r)
  · exact .inr r
theorem sqt_ext (h : ∀ a o, F a = some o → F' a = some o) {K : PySem.W.Frag} {a : Addr} {xs : List V} (r : SqT K F a xs) : SqT K F' a xs := by
  rcases r with r | r
  · exact .inl (rd_ext h r)
  · exact .inr r
theorem HoldK.ext (e : ∀ a o, F a = some o → F' a = some o) {k : Kd} {a : Addr} {vs : List V} (h : HoldK C F k a vs) : HoldK C F' k a vs := by
  cases k with
  | lst => exact e _ _ h
  | klst => exact sql_ext e h
  | tup => exact sqt_ext e h
  | dct ks => obtain ⟨kvs, h1, h2⟩ := h; exact ⟨kvs, e _ _ h1, h2⟩
  | obj c ns => obtain ⟨ca, dx, fs, h1, h2, h3⟩ := h; exact ⟨ca, dx, fs, h1, e _ _ h2, h3⟩
  | exc c ns =>
    obtain ⟨ca, h1, h2⟩ := h
    refine ⟨ca, h1, ?_⟩
    rcases h2 with ⟨h2, h3, h4⟩ | ⟨d, fs, h2, h3, h4⟩
    · exact .inl ⟨h2, h3, e _ _ h4⟩
    · exact .inr ⟨d, fs, e _ _ h2, e _ _ h3, h4⟩
  | cau c a1 C1 dd =>
    obtain ⟨h1, h2, h3⟩ := h
    refine ⟨h1, h2, ?_⟩
    rcases h3 with h3 | ⟨d, fs, h3, h4, h5⟩
    · exact .inl h3
    · exact .inr ⟨d, fs, h3, e _ _ h4, h5⟩
mutual
theorem Rep.ext (e : Ext F ρ F' ρ') : ∀ {d : D} {v : V}, Rep C F ρ d v → Rep C F' ρ' d v
  | _, _, .non => .non
  | _, _, .bl b => .bl b
  | _, _, .int i => .int i
  | _, _, .str x => .str x
  | _, _, .ty n => .ty n
  | _, _, .glb h => .glb h
  | _, _, .cell h => .cell (e.r _ _ h)
  | _, _, .node h r => .node (h.ext e.f) (RepL.ext e r)
theorem RepL.ext (e : Ext F ρ F' ρ') : ∀ {d : List D} {v : List V}, RepL C F ρ d v → RepL C F' ρ' d v
  | _, _, .nil => .nil
  | _, _, .cons h t => .cons (Rep.ext e h) (RepL.ext e t)
end
theorem RepL.length : ∀ {ds : List D} {vs : List V}, RepL C F ρ ds vs → ds.length = vs.length
  | _, _, .nil => rfl
  | _, _, .cons _ t => congrArg (· + 1) (RepL.length t)
theorem RepL.get : ∀ {ds : List D} {vs : List V} {i : Nat} {d : D}, RepL C F ρ ds vs → ds[i]? = some d → ∃ v, vs[i]? = some v ∧ Rep C F ρ d v
  | _, _, _, _, .nil, e => by simp at e
  | _, _, 0, _, .cons h _, e => by simp at e; subst e; exact ⟨_, rfl, h⟩
  | _, _, i + 1, d, .cons _ t, e => by
    obtain ⟨v, h1, h2⟩ := RepL.get (i := i) (d := d) t (by simpa using e)
    exact ⟨v, by simpa using h1, h2⟩
theorem RepL.getV : ∀ {ds : List D} {vs : List V} {i : Nat} {v : V}, RepL C F ρ ds vs → vs[i]? = some v → ∃ d, ds[i]? = some d ∧ Rep C F ρ d v
  | _, _, _, _, .nil, e => by simp at e
  | _, _, 0, _, .cons h _, e => by simp at e; subst e; exact ⟨_, rfl, h⟩
  | _, _, i + 1, v, .cons _ t, e => by
    obtain ⟨d, h1, h2⟩ := RepL.getV (i := i) (v := v) t (by simpa using e)
    exact ⟨d, by simpa using h1, h2⟩
theorem RepL.append : ∀ {xs ys : List D} {us ws : List V}, RepL C F ρ xs us → RepL C F ρ ys ws → RepL C F ρ (xs ++ ys) (us ++ ws)
  | _, _, _, _, .nil, s => s
  | _, _, _, _, .cons h t, s => .cons h (RepL.append t s)
theorem RepL.set {d : D} {v : V} (r : Rep C F ρ d v) : ∀ {xs : List D} {vs : List V} (i : Nat), RepL C F ρ xs vs → RepL C F ρ (xs.set i d) (vs.set i v)
  | _, _, _, .nil => .nil
  | _, _, 0, .cons _ t => .cons r t
  | _, _, i + 1, .cons q t => .cons q (RepL.set r i t)
theorem RepL.take : ∀ {xs : List D} {vs : List V} (n : Nat), RepL C F ρ xs vs → RepL C F ρ (xs.take n) (vs.take n)
  | _, _, 0, _ => .nil
  | _, _, _ + 1, .nil => .nil
  | _, _, n + 1, .cons h t => .cons h (RepL.take n t)
theorem RepL.drop : ∀ {xs : List D} {vs : List V} (n : Nat), RepL C F ρ xs vs → RepL C F ρ (xs.drop n) (vs.drop n)
  | _, _, 0, r => r
  | _, _, _ + 1, .nil => .nil
  | _, _, n + 1, .cons _ t => RepL.drop n t
theorem RepL.ints : ∀ {ns : List Int} {vs : List V}, RepL C F ρ (ns.map D.int) vs → vs = ns.map V.int
  | [], _, .nil => rfl
  | n :: ns, _, .cons h t => by cases h; rw [RepL.ints (ns := ns) t]; rfl
theorem RepL.bls : ∀ {ns : List Bool} {vs : List V}, RepL C F ρ (ns.map D.bl) vs → vs = ns.map V.bl
  | [], _, .nil => rfl
  | n :: ns, _, .cons h t => by cases h; rw [RepL.bls (ns := ns) t]; rfl
theorem RepL.strs : ∀ {ns : List Str} {vs : List V}, RepL C F ρ (ns.map D.str) vs → vs = ns.map V.str
  | [], _, .nil => rfl
  | n :: ns, _, .cons h t => by cases h; rw [RepL.strs (ns := ns) t]; rfl
theorem RepL.ofInts : ∀ {ns : List Int}, RepL C F ρ (ns.map D.int) (ns.map V.int)
  | [] => .nil
  | n :: ns => .cons (.int n) (RepL.ofInts (ns := ns))
end

/-- how a cell's content lies -/
def HoldM (C : Ctx) (H : Hp) (k : Kd) (a : Addr) (vs : List V) : Prop := match k with
  | .lst => H a = some (.lst vs)
  | .dct ks => ∃ kvs, H a = some (.dK kvs) ∧ kvs.map (·.1) = ks ∧ kvs.map (·.2) = vs
  | .obj c ns => ∃ (ca dx : Addr) (fs : List (Str × V)), C.mg c = some (.ref ca) ∧ H a = some (.ins ca dx fs) ∧ fs.map (·.1) = ns ∧ fs.map (·.2) = vs
  | _ => False
/-- the state: the kept part F, the cells' places ρ, the cells κ, the abstract heap H -/
structure StR (C : Ctx) (F : Hp) (ρ : Loc0) (κ : Kap) (H : Hp) : Prop where
  sub : ∀ a o, F a = some o → H a = some o
  live : ∀ n k xs, κ n = some (.live k xs) → ∃ a vs, ρ n = some a ∧ F a = none ∧ HoldM C H k a vs ∧ RepL C F ρ xs vs
  inj : ∀ n m a k xs k' xs', κ n = some (.live k xs) → κ m = some (.live k' xs') → ρ n = some a → ρ m = some a → n = m
  free : ∀ n, κ n = none → ρ n = none
  fin : ∃ N, ∀ n, N ≤ n → κ n = none

theorem HoldM.is {C : Ctx} {H : Hp} {k : Kd} {a : Addr} {vs : List V} (h : HoldM C H k a vs) : ∃ o, H a = some o := by
  cases k with
  | lst => exact ⟨_, h⟩
  | dct ks => obtain ⟨kvs, h1, _⟩ := h; exact ⟨_, h1⟩
  | obj c ns => obtain ⟨_, _, _, _, h1, _⟩ := h; exact ⟨_, h1⟩
  | _ => exact h.elim
theorem HoldM.same {C : Ctx} {H H' : Hp} {k : Kd} {a : Addr} {vs : List V} (h : HoldM C H k a vs) (e : H' a = H a) : HoldM C H' k a vs := by
  cases k with
  | lst => exact e.trans h
  | dct ks => obtain ⟨kvs, h1, h2⟩ := h; exact ⟨kvs, e.trans h1, h2⟩
  | obj c ns => obtain ⟨ca, dx, fs, h0, h1, h2⟩ := h; exact ⟨ca, dx, fs, h0, e.trans h1, h2⟩
  | _ => exact h.elim

section
variable {C : Ctx} {F : Hp} {ρ : Loc0} {κ : Kap} {H : Hp}
/-- a new object, kept -/
theorem StR.laid (S : StR C F ρ κ H) {p : Addr} {o : HO} (h : H p = none) : Ext F ρ (upd F p o) ρ ∧ StR C (upd F p o) ρ κ (upd H p o) := by
  have fp : F p = none := by
    cases e : F p with
    | none => rfl
    | some u => rw [S.sub p u e] at h; cases h
  have ex : Ext F ρ (upd F p o) ρ := ⟨fun a u e => by rw [upd_ne (ne_of_none e fp)]; exact e, fun _ _ e => e⟩
  refine ⟨ex, ⟨fun a u e => ?_, fun n k xs e => ?_, S.inj, S.free, S.fin⟩⟩
  · by_cases ha : a = p
    · subst ha; rw [upd_same] at e; rw [upd_same]; exact e
    · rw [upd_ne ha] at e; rw [upd_ne ha]; exact S.sub a u e
  · obtain ⟨a, vs, h1, h2, h3, h4⟩ := S.live n k xs e
    obtain ⟨u, hu⟩ := h3.is
    have ne : a ≠ p := ne_of_none hu h
    exact ⟨a, vs, h1, by rw [upd_ne ne]; exact h2, h3.same (upd_ne ne), h4.ext ex⟩
/-- a new object, a cell -/
theorem StR.cell (S : StR C F ρ κ H) {p : Addr} {o : HO} {k : Kd} {vs : List V} {xs : List D} (h : H p = none) (hm : ∀ H', H' p = some o → HoldM C H' k p vs) (r : RepL C F ρ xs vs) {n : Nat} (hn : κ n = none) :
    ∃ ρ', Ext F ρ F ρ' ∧ ρ' n = some p ∧ StR C F ρ' (kset κ n (.live k xs)) (upd H p o) := by
  have ex : Ext F ρ F (fun m => if m = n then some p else ρ m) := ⟨fun _ _ e => e, fun m a e => by
    have : m ≠ n := fun z => by rw [z, S.free n hn] at e; cases e
    show (if m = n then some p else ρ m) = some a
    rw [if_neg this]; exact e⟩
  have fp : F p = none := by
    cases e : F p with
    | none => rfl
    | some u => rw [S.sub p u e] at h; cases h
  refine ⟨_, ex, if_pos rfl, ⟨fun a u e => ?_, fun m k' xs' e => ?_, fun m m' a k1 x1 k2 x2 e e' r1 r2 => ?_, fun m e => ?_, ?_⟩⟩
  · rw [upd_ne (ne_of_none (S.sub a u e) h)]; exact S.sub a u e
  · by_cases hm' : m = n
    · subst hm'
      rw [kset_same] at e
      cases e
      exact ⟨p, vs, if_pos rfl, fp, hm _ upd_same, r.ext ex⟩
    · rw [kset_ne hm'] at e
      obtain ⟨a, ws, h1, h2, h3, h4⟩ := S.live m k' xs' e
      obtain ⟨u, hu⟩ := h3.is
      have ne : a ≠ p := ne_of_none hu h
      exact ⟨a, ws, by rw [if_neg hm']; exact h1, h2, h3.same (upd_ne ne), h4.ext ex⟩
  · have key : ∀ {m a k1 x1}, m ≠ n → kset κ n (.live k xs) m = some (.live k1 x1) → (if m = n then some p else ρ m) = some a → a ≠ p := by
      intro m a k1 x1 hm' e r1
      rw [kset_ne hm'] at e
      obtain ⟨b, ws, h1, h2, h3, h4⟩ := S.live m k1 x1 e
      rw [if_neg hm', h1] at r1
      cases r1
      obtain ⟨u, hu⟩ := h3.is
      exact ne_of_none hu h
    by_cases h1 : m = n
    · by_cases h2 : m' = n
      · exact h1.trans h2.symm
      · have := key h2 e' r2
        rw [if_pos h1] at r1
        cases r1
        exact absurd rfl this
    · by_cases h2 : m' = n
      · have := key h1 e r1
        rw [if_pos h2] at r2
        cases r2
        exact absurd rfl this
      · rw [kset_ne h1] at e
        rw [kset_ne h2] at e'
        rw [if_neg h1] at r1
        rw [if_neg h2] at r2
        exact S.inj _ _ _ _ _ _ _ e e' r1 r2
  · have hm' : m ≠ n := fun z => by rw [z, kset_same] at e; cases e
    rw [kset_ne hm'] at e
    show (if m = n then some p else ρ m) = none
    rw [if_neg hm']
    exact S.free m e
  · obtain ⟨N, hN⟩ := S.fin
    refine ⟨max N (n + 1), fun m hm' => ?_⟩
    rw [kset_ne (by omega)]
    exact hN m (by omega)
theorem StR.fresh (S : StR C F ρ κ H) : ∃ n, κ n = none := let ⟨N, h⟩ := S.fin; ⟨N, h N (Nat.le_refl _)⟩
/-- a cell is written -/
theorem StR.write (S : StR C F ρ κ H) {n : Nat} {a : Addr} {o : HO} {k k' : Kd} {xs xs' : List D} {vs' : List V} (hn : κ n = some (.live k xs)) (ha : ρ n = some a) (hm : ∀ H', H' a = some o → HoldM C H' k' a vs') (r : RepL C F ρ xs' vs') :
    StR C F ρ (kset κ n (.live k' xs')) (upd H a o) := by
  have fa : F a = none := by
    obtain ⟨b, vs, h1, h2, _⟩ := S.live n k xs hn
    rw [ha] at h1
    cases h1
    exact h2
  refine ⟨fun b u e => ?_, fun m k1 x1 e => ?_, fun m m' b k1 x1 k2 x2 e e' r1 r2 => ?_, fun m e => ?_, ?_⟩
  · rw [upd_ne (ne_of_none e fa)]; exact S.sub b u e
  · by_cases hm' : m = n
    · subst hm'
      rw [kset_same] at e
      cases e
      exact ⟨a, vs', ha, fa, hm _ upd_same, r⟩
    · rw [kset_ne hm'] at e
      obtain ⟨b, ws, h1, h2, h3, h4⟩ := S.live m k1 x1 e
      have ne : b ≠ a := fun z => hm' (S.inj m n a k1 x1 k xs e hn (z ▸ h1) ha)
      exact ⟨b, ws, h1, h2, h3.same (upd_ne ne), h4⟩
  · have key : ∀ {m k1 x1}, kset κ n (.live k' xs') m = some (.live k1 x1) → ∃ k2 x2, κ m = some (.live k2 x2) := by
      intro m k1 x1 e
      by_cases z : m = n
      · exact ⟨k, xs, z ▸ hn⟩
      · rw [kset_ne z] at e
        exact ⟨_, _, e⟩
    obtain ⟨_, _, q1⟩ := key e
    obtain ⟨_, _, q2⟩ := key e'
    exact S.inj _ _ _ _ _ _ _ q1 q2 r1 r2
  · have hm' : m ≠ n := fun z => by rw [z, kset_same] at e; cases e
    rw [kset_ne hm'] at e
    exact S.free m e
  · obtain ⟨N, hN⟩ := S.fin
    refine ⟨max N (n + 1), fun m hm' => ?_⟩
    rw [kset_ne (by omega)]
    exact hN m (by omega)
theorem HoldM.toK {k : Kd} {a : Addr} {vs : List V} (h : HoldM C H k a vs) : ∃ o, H a = some o ∧ ∀ F : Hp, F a = some o → HoldK C F k a vs := by
  cases k with
  | lst => exact ⟨_, h, fun F e => e⟩
  | dct ks => obtain ⟨kvs, h1, h2⟩ := h; exact ⟨_, h1, fun F e => ⟨kvs, e, h2⟩⟩
  | obj c ns => obtain ⟨ca, dx, fs, h0, h1, h2⟩ := h; exact ⟨_, h1, fun F e => ⟨ca, dx, fs, h0, e, h2⟩⟩
  | _ => exact h.elim
/-- a cell is kept from now on -/
theorem StR.freeze (S : StR C F ρ κ H) {n : Nat} {a : Addr} {k : Kd} {xs : List D} (hn : κ n = some (.live k xs)) (ha : ρ n = some a) :
    ∃ F', Ext F ρ F' ρ ∧ Rep C F' ρ (.node k xs) (.ref a) ∧ StR C F' ρ (kset κ n .dead) H := by
  obtain ⟨b, vs, h1, h2, h3, h4⟩ := S.live n k xs hn
  rw [ha] at h1
  cases h1
  obtain ⟨o, ho, hk⟩ := h3.toK
  have ex : Ext F ρ (upd F a o) ρ := ⟨fun b u e => by rw [upd_ne (ne_of_none e h2)]; exact e, fun _ _ e => e⟩
  refine ⟨upd F a o, ex, .node (hk _ upd_same) (h4.ext ex), ⟨fun b u e => ?_, fun m k1 x1 e => ?_, fun m m' b k1 x1 k2 x2 e e' r1 r2 => ?_, fun m e => ?_, ?_⟩⟩
  · by_cases hb : b = a
    · subst hb; rw [upd_same] at e; cases e; exact ho
    · rw [upd_ne hb] at e; exact S.sub b u e
  · have hm' : m ≠ n := fun z => by rw [z, kset_same] at e; cases e
    rw [kset_ne hm'] at e
    obtain ⟨b, ws, g1, g2, g3, g4⟩ := S.live m k1 x1 e
    have ne : b ≠ a := fun z => hm' (S.inj m n a k1 x1 k xs e hn (z ▸ g1) ha)
    exact ⟨b, ws, g1, by rw [upd_ne ne]; exact g2, g3, g4.ext ex⟩
  · have key : ∀ {m k1 x1}, kset κ n .dead m = some (.live k1 x1) → κ m = some (.live k1 x1) := by
      intro m k1 x1 e
      by_cases z : m = n
      · rw [z, kset_same] at e; cases e
      · rw [kset_ne z] at e; exact e
    exact S.inj _ _ _ _ _ _ _ (key e) (key e') r1 r2
  · have hm' : m ≠ n := fun z => by rw [z, kset_same] at e; cases e
    rw [kset_ne hm'] at e
    exact S.free m e
  · obtain ⟨N, hN⟩ := S.fin
    refine ⟨max N (n + 1), fun m hm' => ?_⟩
    rw [kset_ne (by omega)]
    exact hN m (by omega)
end

/-! ### slots -/
def RepS (C : Ctx) (F : Hp) (ρ : Loc0) (δ : DEnv) (σ : L2.St) : Prop := δ.length = σ.length ∧ ∀ (i : Nat) (d : D), δ[i]? = some (some d) → ∃ v : V, σ[i]? = some (some v) ∧ Rep C F ρ d v
section
variable {C : Ctx} {F F' : Hp} {ρ ρ' : Loc0} {δ : DEnv} {σ : L2.St}
theorem RepS.ext (e : Ext F ρ F' ρ') (h : RepS C F ρ δ σ) : RepS C F' ρ' δ σ := ⟨h.1, fun i d q => let ⟨v, a, b⟩ := h.2 i d q; ⟨v, a, b.ext e⟩⟩
theorem RepS.set (h : RepS C F ρ δ σ) {d : D} {v : V} (r : Rep C F ρ d v) (i : Nat) : RepS C F ρ (δ.set i (some d)) (σ.set i (some v)) := by
  refine ⟨by rw [List.length_set, List.length_set]; exact h.1, fun j e q => ?_⟩
  by_cases hj : i = j
  · subst hj
    by_cases hi : i < δ.length
    · rw [List.getElem?_set_self hi] at q
      cases q
      exact ⟨v, List.getElem?_set_self (h.1 ▸ hi), r⟩
    · rw [List.getElem?_eq_none (by simpa using hi)] at q; cases q
  · rw [List.getElem?_set_ne hj] at q ⊢
    exact h.2 j e q
theorem RepS.unset (h : RepS C F ρ δ σ) (i : Nat) : RepS C F ρ (δ.set i none) (σ.set i none) := by
  refine ⟨by rw [List.length_set, List.length_set]; exact h.1, fun j e q => ?_⟩
  by_cases hj : i = j
  · subst hj
    by_cases hi : i < δ.length
    · rw [List.getElem?_set_self hi] at q; cases q
    · rw [List.getElem?_eq_none (by simpa using hi)] at q; cases q
  · rw [List.getElem?_set_ne hj] at q ⊢
    exact h.2 j e q
def dwipe (δ : DEnv) : List Nat → DEnv
  | [] => δ
  | v :: vs => (dwipe δ vs).set v none
theorem RepS.wipe (h : RepS C F ρ δ σ) : ∀ vs : List Nat, RepS C F ρ (dwipe δ vs) (L2.wipe σ vs)
  | [] => h
  | v :: vs => (RepS.wipe h vs).unset v
end

/-- an exception: its class by name, its fields -/
structure RepX (C : Ctx) (F : Hp) (ρ : Loc0) (c : Str) (fs : List D) (cls : Value) (dd : Option Addr) : Prop where
  cls : C.mg c = some cls ∧ ∃ a, cls = .ref a
  fs : ∃ vs, RepL C F ρ fs vs ∧ ((vs = [] ∧ dd = none) ∨ ∃ d ns, dd = some d ∧ F d = some (.xd ns) ∧ vs = xflat ns)
theorem RepX.ext {C : Ctx} {F F' : Hp} {ρ ρ' : Loc0} (e : Ext F ρ F' ρ') {c : Str} {fs : List D} {cls : Value} {dd : Option Addr} (h : RepX C F ρ c fs cls dd) : RepX C F' ρ' c fs cls dd := by
  obtain ⟨h1, vs, h2, h3⟩ := h
  refine ⟨h1, vs, h2.ext e, ?_⟩
  rcases h3 with h3 | ⟨d, ns, h3, h4, h5⟩
  · exact .inl h3
  · exact .inr ⟨d, ns, h3, e.f _ _ h4, h5⟩

/-! ### posts -/
def Post (C : Ctx) (F : Hp) (ρ : Loc0) (QD : DQ) (Q : VK) : Prop := ∀ F' ρ' κ' H' d v, Ext F ρ F' ρ' → StR C F' ρ' κ' H' → Rep C F' ρ' d v → QD d κ' → Q v H'
def PostT (C : Ctx) (F : Hp) (ρ : Loc0) (QD : Bool → Kap → Prop) (Q : Bool → Hp → Prop) : Prop := ∀ F' ρ' κ' H' b, Ext F ρ F' ρ' → StR C F' ρ' κ' H' → QD b κ' → Q b H'
def PostA (C : Ctx) (F : Hp) (ρ : Loc0) (QD : List D → Kap → Prop) (Q : List V → Hp → Prop) : Prop := ∀ F' ρ' κ' H' ds vs, Ext F ρ F' ρ' → StR C F' ρ' κ' H' → RepL C F' ρ' ds vs → QD ds κ' → Q vs H'
def PostN (C : Ctx) (F : Hp) (ρ : Loc0) (QD : DEnv → Kap → Prop) (Q : L2.St → Hp → Prop) : Prop := ∀ F' ρ' κ' H' δ σ, Ext F ρ F' ρ' → StR C F' ρ' κ' H' → RepS C F' ρ' δ σ → QD δ κ' → Q σ H'
def PostX (C : Ctx) (F : Hp) (ρ : Loc0) (XD : DX) (W : WX) : Prop := ∀ F' ρ' κ' H' δ σ c fs cls dd, Ext F ρ F' ρ' → StR C F' ρ' κ' H' → RepS C F' ρ' δ σ → RepX C F' ρ' c fs cls dd → XD δ c fs κ' → W cls dd σ H'
structure PostE (C : Ctx) (F : Hp) (ρ : Loc0) (DD : DEnds) (T : Ends) : Prop where
  nx : PostN C F ρ DD.nx T.nx
  rt : Post C F ρ DD.rt T.rt
  bk : PostN C F ρ DD.bk T.bk
  ct : PostN C F ρ DD.ct T.ct
section
variable {C : Ctx} {F F' : Hp} {ρ ρ' : Loc0}
theorem Post.ext (e : Ext F ρ F' ρ') {QD : DQ} {Q : VK} (h : Post C F ρ QD Q) : Post C F' ρ' QD Q := fun F2 ρ2 κ H d v e2 => h F2 ρ2 κ H d v (e.trans e2)
theorem PostT.ext (e : Ext F ρ F' ρ') {QD : Bool → Kap → Prop} {Q : Bool → Hp → Prop} (h : PostT C F ρ QD Q) : PostT C F' ρ' QD Q := fun F2 ρ2 κ H d e2 => h F2 ρ2 κ H d (e.trans e2)
theorem PostA.ext (e : Ext F ρ F' ρ') {QD : List D → Kap → Prop} {Q : List V → Hp → Prop} (h : PostA C F ρ QD Q) : PostA C F' ρ' QD Q := fun F2 ρ2 κ H d v e2 => h F2 ρ2 κ H d v (e.trans e2)
theorem PostN.ext (e : Ext F ρ F' ρ') {QD : DEnv → Kap → Prop} {Q : L2.St → Hp → Prop} (h : PostN C F ρ QD Q) : PostN C F' ρ' QD Q := fun F2 ρ2 κ H d v e2 => h F2 ρ2 κ H d v (e.trans e2)
theorem PostX.ext (e : Ext F ρ F' ρ') {XD : DX} {W : WX} (h : PostX C F ρ XD W) : PostX C F' ρ' XD W := fun F2 ρ2 κ H a b c d x y e2 => h F2 ρ2 κ H a b c d x y (e.trans e2)
theorem PostE.ext (e : Ext F ρ F' ρ') {DD : DEnds} {T : Ends} (h : PostE C F ρ DD T) : PostE C F' ρ' DD T := ⟨h.nx.ext e, h.rt.ext e, h.bk.ext e, h.ct.ext e⟩
end

/-! ### lifts -/
def liftE (C : Ctx) (W : WX) (de : DE) : TE := fun σ H Q => ∃ F ρ κ δ XD QD, StR C F ρ κ H ∧ RepS C F ρ δ σ ∧ de δ κ XD QD ∧ Post C F ρ QD Q ∧ PostX C F ρ XD W
def liftT (C : Ctx) (W : WX) (dt : DT) : TT := fun σ H Q => ∃ F ρ κ δ XD QD, StR C F ρ κ H ∧ RepS C F ρ δ σ ∧ dt δ κ XD QD ∧ PostT C F ρ QD Q ∧ PostX C F ρ XD W
def liftA (C : Ctx) (W : WX) (da : DA) : TA := fun σ H Q => ∃ F ρ κ δ XD QD, StR C F ρ κ H ∧ RepS C F ρ δ σ ∧ da δ κ XD QD ∧ PostA C F ρ QD Q ∧ PostX C F ρ XD W
def liftS (C : Ctx) (W : WX) (ds : DS) : TS := fun T σ H => ∃ F ρ κ δ XD DD, StR C F ρ κ H ∧ RepS C F ρ δ σ ∧ ds δ κ XD DD ∧ PostE C F ρ DD T ∧ PostX C F ρ XD W
abbrev CtxOf (X : Cx) : Ctx := ⟨X.K, X.mg⟩
abbrev PED (X : Cx) (W : WX) (e : Expr) (de : DE) : Prop := PE X e (liftE (CtxOf X) W de)
abbrev PTD (X : Cx) (W : WX) (e : Expr) (dt : DT) : Prop := PT X e (liftT (CtxOf X) W dt)
abbrev PAD (X : Cx) (W : WX) (es : List Expr) (da : DA) : Prop := PA X es (liftA (CtxOf X) W da)
abbrev PSD (X : Cx) (W : WX) (st : Stmt) (ds : DS) : Prop := PS X st (liftS (CtxOf X) W ds)
abbrev PSsD (X : Cx) (W : WX) (st : List Stmt) (ds : DS) : Prop := PSs X st (liftS (CtxOf X) W ds)

section
variable {X : Cx}
theorem pe_weak {e : Expr} {t t' : TE} (h : PE X e t) (w : ∀ σ H Q, t' σ H Q → t σ H Q) : PE X e t' := ⟨fun pins s σ H Q I q => h.run pins s σ H Q I (w σ H Q q)⟩
theorem pt_weak {e : Expr} {t t' : TT} (h : PT X e t) (w : ∀ σ H Q, t' σ H Q → t σ H Q) : PT X e t' := ⟨fun pins s σ H Q I q => h.run pins s σ H Q I (w σ H Q q)⟩
theorem pa_weak {e : List Expr} {t t' : TA} (h : PA X e t) (w : ∀ σ H Q, t' σ H Q → t σ H Q) : PA X e t' := ⟨fun pos pins s σ H Q I q => h.run pos pins s σ H Q I (w σ H Q q)⟩
theorem ps_weak {e : Stmt} {t t' : TS} (h : PS X e t) (w : ∀ T σ H, t' T σ H → t T σ H) : PS X e t' := ⟨fun pins s σ H T I q => h.run pins s σ H T I (w T σ H q)⟩
theorem pss_weak {e : List Stmt} {t t' : TS} (h : PSs X e t) (w : ∀ T σ H, t' T σ H → t T σ H) : PSs X e t' := ⟨fun pins s σ H T I q => h.run pins s σ H T I (w T σ H q)⟩
end
end DL

/-! DL: expressions. -/
namespace DL
open PySem PySem.Spec PyProof.Rows L2

abbrev D1 := D → Kap → DQ → Prop
abbrev D2 := D → D → Kap → DQ → Prop
abbrev DN := List D → Kap → DQ → Prop
abbrev D1N := D → List D → Kap → DQ → Prop
def Sim1 (C : Ctx) (f : D1) (r : V → Hp → VK → Prop) : Prop := ∀ F ρ κ H x v QD Q, StR C F ρ κ H → Rep C F ρ x v → f x κ QD → Post C F ρ QD Q → r v H Q
def Sim2 (C : Ctx) (f : D2) (r : R2) : Prop := ∀ F ρ κ H x y v u QD Q, StR C F ρ κ H → Rep C F ρ x v → Rep C F ρ y u → f x y κ QD → Post C F ρ QD Q → r v u H Q
def SimN (C : Ctx) (f : DN) (r : List V → Hp → VK → Prop) : Prop := ∀ F ρ κ H xs vs QD Q, StR C F ρ κ H → RepL C F ρ xs vs → f xs κ QD → Post C F ρ QD Q → r vs H Q
def Sim1N (C : Ctx) (f : D1N) (r : V → List V → Hp → VK → Prop) : Prop := ∀ F ρ κ H x v xs vs QD Q, StR C F ρ κ H → Rep C F ρ x v → RepL C F ρ xs vs → f x xs κ QD → Post C F ρ QD Q → r v vs H Q

/-! ### combinators -/
def dVar (i : Nat) : DE := fun δ κ _ Q => match δ[i]? with
  | some (some d) => Q d κ
  | _ => False
def dC (d : D) : DE := fun _ κ _ Q => Q d κ
def dOp (f : D2) (a b : DE) : DE := fun δ κ X Q => a δ κ X fun x κ1 => b δ κ1 X fun y κ2 => f x y κ2 Q
def dUn (f : D1) (a : DE) : DE := fun δ κ X Q => a δ κ X fun x κ1 => f x κ1 Q
def dNil : DA := fun _ κ _ Q => Q [] κ
def dCons (a : DE) (r : DA) : DA := fun δ κ X Q => a δ κ X fun x κ1 => r δ κ1 X fun xs κ2 => Q (x :: xs) κ2
def dB (f : DN) (as : DA) : DE := fun δ κ X Q => as δ κ X fun xs κ1 => f xs κ1 Q
/-- what is new: kept (false), or a cell (true) -/
def fNew (m : Bool) (k : Kd) (xs : List D) (κ : Kap) (Q : DQ) : Prop := match m with
  | false => Q (.node k xs) κ
  | true => ∀ n, κ n = none → Q (.cell n) (kset κ n (.live k xs))
def dTup (as : DA) : DE := fun δ κ X Q => as δ κ X fun xs κ1 => xs.length ≤ sizeLine ∧ Q (.tup xs) κ1
def dLst (m : Bool) (as : DA) : DE := fun δ κ X Q => as δ κ X fun xs κ1 => xs.length ≤ sizeLine ∧ fNew m .lst xs κ1 Q
/-- what a thing holds -/
def view (x : D) (κ : Kap) : Option (Kd × List D) := match x with
  | .node k xs => some (k, xs)
  | .cell n => match κ n with
    | some (.live k xs) => some (k, xs)
    | _ => none
  | _ => none
def truth (x : D) (κ : Kap) : Option Bool := match x with
  | .non => some false
  | .bl b => some b
  | .int i => some (i != 0)
  | .str y => if y.length ≤ sizeLine then some ((y.length : Int) != 0) else none
  | x => match view x κ with
    | some (.lst, xs) => some (!xs.isEmpty)
    | some (.tup, xs) => some (!xs.isEmpty)
    | some (.dct ks, _) => some (!ks.isEmpty)
    | _ => none
def withTruth (x : D) (κ : Kap) (P : Bool → Prop) : Prop := match truth x κ with
  | some b => P b
  | none => False
def dAnd (a b : DE) : DE := fun δ κ X Q => a δ κ X fun x κ1 => withTruth x κ1 fun t => if t = true then b δ κ1 X Q else Q x κ1
def dOr (a b : DE) : DE := fun δ κ X Q => a δ κ X fun x κ1 => withTruth x κ1 fun t => if t = true then Q x κ1 else b δ κ1 X Q
def dNot (a : DE) : DE := fun δ κ X Q => a δ κ X fun x κ1 => withTruth x κ1 fun t => Q (.bl (!t)) κ1
def dIf (t : DT) (a b : DE) : DE := fun δ κ X Q => t δ κ X fun k κ1 => if k = true then a δ κ1 X Q else b δ κ1 X Q
def dChain (f g : D2) (a b c : DE) : DE := fun δ κ X Q => a δ κ X fun x κ1 => b δ κ1 X fun y κ2 => f x y κ2 fun z κ3 => ∃ k, z = .bl k ∧ if k = true then c δ κ3 X (fun w κ4 => g y w κ4 Q) else Q (.bl false) κ3
/-! tests -/
def tTru (a : DE) : DT := fun δ κ X Q => a δ κ X fun x κ1 => withTruth x κ1 fun t => Q t κ1
def tBl (a : DE) : DT := fun δ κ X Q => a δ κ X fun x κ1 => ∃ k, x = .bl k ∧ Q k κ1
def tAndD (a b : DT) : DT := fun δ κ X Q => a δ κ X fun t κ1 => if t = true then b δ κ1 X Q else Q false κ1
def tOrD (a b : DT) : DT := fun δ κ X Q => a δ κ X fun t κ1 => if t = true then Q true κ1 else b δ κ1 X Q
def tNotD (a : DT) : DT := fun δ κ X Q => a δ κ X fun t κ1 => Q (!t) κ1

/-! ### lifts of combinators -/
section
variable {C : Ctx} {W : WX} {σ : L2.St} {H : Hp} {Q : VK} {a b c : DE}
theorem lift_op {f : D2} {r : R2} (hs : Sim2 C f r) (h : liftE C W (dOp f a b) σ H Q) : tOp r (liftE C W a) (liftE C W b) σ H Q := by
  obtain ⟨F, ρ, κ, δ, XD, QD, S, R, h, P, PX⟩ := h
  exact ⟨F, ρ, κ, δ, XD, _, S, R, h, fun F1 ρ1 κ1 H1 x v e1 S1 R1 h1 => ⟨F1, ρ1, κ1, δ, XD, _, S1, R.ext e1, h1, fun F2 ρ2 κ2 H2 y u e2 S2 R2 h2 => hs _ _ _ _ _ _ _ _ _ _ S2 (R1.ext e2) R2 h2 (P.ext (e1.trans e2)), PX.ext e1⟩, PX⟩
theorem lift_un {f : D1} {r : V → Hp → VK → Prop} (hs : Sim1 C f r) (h : liftE C W (dUn f a) σ H Q) : tUn r (liftE C W a) σ H Q := by
  obtain ⟨F, ρ, κ, δ, XD, QD, S, R, h, P, PX⟩ := h
  exact ⟨F, ρ, κ, δ, XD, _, S, R, h, fun F1 ρ1 κ1 H1 x v e1 S1 R1 h1 => hs _ _ _ _ _ _ _ _ S1 R1 h1 (P.ext e1), PX⟩
theorem lift_nil {Q : List V → Hp → Prop} (h : liftA C W dNil σ H Q) : tNil σ H Q := by
  obtain ⟨F, ρ, κ, δ, XD, QD, S, R, h, P, PX⟩ := h
  exact P _ _ _ _ _ _ (Ext.refl _ _) S .nil h
theorem lift_cons {r : DA} {Q : List V → Hp → Prop} (h : liftA C W (dCons a r) σ H Q) : tCons (liftE C W a) (liftA C W r) σ H Q := by
  obtain ⟨F, ρ, κ, δ, XD, QD, S, R, h, P, PX⟩ := h
  exact ⟨F, ρ, κ, δ, XD, _, S, R, h, fun F1 ρ1 κ1 H1 x v e1 S1 R1 h1 => ⟨F1, ρ1, κ1, δ, XD, _, S1, R.ext e1, h1, fun F2 ρ2 κ2 H2 ys us e2 S2 R2 h2 => P _ _ _ _ _ _ (e1.trans e2) S2 (.cons (R1.ext e2) R2) h2, PX.ext e1⟩, PX⟩
theorem lift_B {f : DN} {r : List V → Hp → VK → Prop} {as : DA} (hs : SimN C f r) (h : liftE C W (dB f as) σ H Q) : tCB r (liftA C W as) σ H Q := by
  obtain ⟨F, ρ, κ, δ, XD, QD, S, R, h, P, PX⟩ := h
  exact ⟨F, ρ, κ, δ, XD, _, S, R, h, fun F1 ρ1 κ1 H1 x v e1 S1 R1 h1 => hs _ _ _ _ _ _ _ _ S1 R1 h1 (P.ext e1), PX⟩
end

/-! ### new things -/
section
variable {C : Ctx} {F : Hp} {ρ : Loc0} {κ : Kap} {H : Hp} {Q : VK} {QD : DQ}
/-- what is new: o is the object, by its content -/
theorem new_of {m : Bool} {k : Kd} {o : HO} {xs : List D} {vs : List V} (S : StR C F ρ κ H) (r : RepL C F ρ xs vs) (hk : ∀ (F : Hp) (p : Addr), F p = some o → HoldK C F k p vs) (hm : ∀ (F : Hp) (p : Addr), F p = some o → HoldM C F k p vs) (h : fNew m k xs κ QD) (P : Post C F ρ QD Q) :
    ∀ p, H p = none → Q (.ref p) (upd H p o) := fun p hp => by
  cases m with
  | false =>
    obtain ⟨e, S1⟩ := S.laid (o := o) hp
    exact P _ _ _ _ _ _ e S1 (.node (hk _ _ upd_same) (r.ext e)) h
  | true =>
    obtain ⟨n, hn⟩ := S.fresh
    obtain ⟨ρ', e, hr, S1⟩ := S.cell (o := o) hp (fun H' q => hm H' p q) r hn
    exact P _ _ _ _ _ _ e S1 (.cell hr) (h n hn)
theorem new_lst {m : Bool} {xs : List D} {vs : List V} (S : StR C F ρ κ H) (r : RepL C F ρ xs vs) (h : fNew m .lst xs κ QD) (P : Post C F ρ QD Q) : ∀ p, H p = none → Q (.ref p) (upd H p (.lst vs)) :=
  new_of (k := .lst) S r (fun _ _ e => e) (fun _ _ e => e) h P
theorem new_tup {xs : List D} {vs : List V} (S : StR C F ρ κ H) (r : RepL C F ρ xs vs) (h : QD (.tup xs) κ) (P : Post C F ρ QD Q) : ∀ p, H p = none → Q (.ref p) (upd H p (.tup vs)) := fun p hp => by
  obtain ⟨e, S1⟩ := S.laid (o := .tup vs) hp
  exact P _ _ _ _ _ _ e S1 (.node (k := .tup) (SqT.of upd_same) (r.ext e)) h
theorem new_dct {m : Bool} {kvs : List (Key × V)} {xs : List D} (S : StR C F ρ κ H) (r : RepL C F ρ xs (kvs.map (·.2))) (h : fNew m (.dct (kvs.map (·.1))) xs κ QD) (P : Post C F ρ QD Q) : ∀ p, H p = none → Q (.ref p) (upd H p (.dK kvs)) :=
  new_of (k := .dct (kvs.map (·.1))) S r (fun _ _ e => ⟨kvs, e, rfl, rfl⟩) (fun _ _ e => ⟨kvs, e, rfl, rfl⟩) h P
/-- a kept thing, or a cell, as it lies in the heap -/
theorem view_at {x : D} {v : V} {k : Kd} {xs : List D} (S : StR C F ρ κ H) (r : Rep C F ρ x v) (h : view x κ = some (k, xs)) : ∃ a vs, v = .ref a ∧ HoldK C H k a vs ∧ RepL C F ρ xs vs := by
  cases r with
  | node hh rr =>
    cases h
    exact ⟨_, _, rfl, hh.ext S.sub, rr⟩
  | @cell n a hr =>
    have h' : (match κ n with
      | some (.live k xs) => some (k, xs)
      | _ => none) = some (k, xs) := h
    cases e : κ n with
    | none => rw [e] at h'; cases h'
    | some c =>
      cases c with
      | dead => rw [e] at h'; cases h'
      | live k' xs' =>
        rw [e] at h'
        cases h'
        obtain ⟨b, vs, h1, h2, h3, h4⟩ := S.live n k xs e
        rw [hr] at h1
        cases h1
        obtain ⟨o, ho, hk⟩ := h3.toK
        exact ⟨a, vs, rfl, hk H ho, h4⟩
  | _ => cases h
/-- a cell, as it may be written -/
theorem cell_at {n : Nat} {v : V} {k : Kd} {xs : List D} (S : StR C F ρ κ H) (r : Rep C F ρ (.cell n) v) (h : κ n = some (.live k xs)) : ∃ a vs, v = .ref a ∧ ρ n = some a ∧ HoldM C H k a vs ∧ RepL C F ρ xs vs := by
  cases r with
  | @cell n a hr =>
    obtain ⟨b, vs, h1, h2, h3, h4⟩ := S.live n k xs h
    rw [hr] at h1
    cases h1
    exact ⟨a, vs, rfl, hr, h3, h4⟩
theorem truth_at {x : D} {v : V} {t : Bool} (S : StR C F ρ κ H) (r : Rep C F ρ x v) (h : truth x κ = some t) : TruV C.K v H t := by
  have key : ∀ {x : D} {v : V}, Rep C F ρ x v → (match view x κ with
    | some (.lst, xs) => some (!xs.isEmpty)
    | some (.tup, xs) => some (!xs.isEmpty)
    | some (.dct ks, _) => some (!ks.isEmpty)
    | _ => none) = some t → TruV C.K v H t := by
    intro x v r h
    cases e : view x κ with
    | none => rw [e] at h; cases h
    | some p =>
      obtain ⟨k, xs⟩ := p
      obtain ⟨a, vs, rfl, hk, rl⟩ := view_at S r e
      have el : xs.isEmpty = vs.isEmpty := by
        have := rl.length
        cases xs <;> cases vs <;> first | rfl | (simp at this)
      rw [e] at h
      cases k with
      | lst => cases h; exact .inl ⟨vs, SqL.of hk, by rw [el]⟩
      | tup => cases h; exact .inr (.inl ⟨vs, hk, by rw [el]⟩)
      | dct ks =>
        cases h
        obtain ⟨kvs, h1, rfl, h3⟩ := hk
        exact .inr (.inr ⟨kvs, h1, by cases kvs <;> rfl⟩)
      | _ => cases h
  cases x with
  | non => cases r; cases h; rfl
  | bl b => cases r; cases h; rfl
  | int i => cases r; cases h; rfl
  | str y =>
    cases r
    have h' : (if y.length ≤ sizeLine then some ((y.length : Int) != 0) else none) = some t := h
    by_cases hy : y.length ≤ sizeLine
    · rw [if_pos hy] at h'
      cases h'
      exact ⟨hy, rfl⟩
    · rw [if_neg hy] at h'; cases h'
  | node k xs => exact key r h
  | cell n => exact key r h
  | _ => cases h
theorem withTruth_at {x : D} {v : V} {P : Bool → Prop} (S : StR C F ρ κ H) (r : Rep C F ρ x v) (h : withTruth x κ P) : ∃ t, TruV C.K v H t ∧ P t := by
  unfold withTruth at h
  cases e : truth x κ with
  | none => rw [e] at h; exact h.elim
  | some t => rw [e] at h; exact ⟨t, truth_at S r e, h⟩
end

/-! ### expressions' rules -/
section
variable {X : Cx} {W : WX} {e e1 e2 e3 : Expr} {es : List Expr} {a b c : DE} {as : DA} {t u : DT} {pos : Pos}
theorem pd_var (i : Nat) {x : Str} {pos : Pos} (hN : X.N[i]? = some x := by rfl) (hv : Vis X.env.scope x := by first | exact Or.inl rfl | exact Or.inr (Or.inl rfl) | exact Or.inr (Or.inr rfl)) (hd : (x == ("__debug__" : Str)) = false := by decide)
    (hcd : (x == ("__classdict__" : Str)) = false := by decide) : PED X W (.Name x pos) (dVar i) := pe_weak (pe_var hN hv hd hcd) fun σ H Q ⟨F, ρ, κ, δ, XD, QD, S, R, h, P, PX⟩ => by
  unfold dVar at h
  cases e : δ[i]? with
  | none => rw [e] at h; exact h.elim
  | some o =>
    cases o with
    | none => rw [e] at h; exact h.elim
    | some d =>
      rw [e] at h
      obtain ⟨v, h1, h2⟩ := R.2 i d e
      exact ⟨v, h1, P _ _ _ _ _ _ (Ext.refl _ _) S h2 h⟩
theorem pd_c {d : D} {v : V} (h : PE X e (tC v)) (r : ∀ F ρ, Rep (CtxOf X) F ρ d v) : PED X W e (dC d) := pe_weak h fun σ H Q ⟨F, ρ, κ, δ, XD, QD, S, R, h, P, PX⟩ => P _ _ _ _ _ _ (Ext.refl _ _) S (r _ _) h
theorem pd_int {i j pos} : PED X W (.Constant (.int i) j pos) (dC (.int i)) := pd_c pe_int fun _ _ => .int i
theorem pd_bl {b j pos} : PED X W (.Constant (.bool b) j pos) (dC (.bl b)) := pd_c pe_bl fun _ _ => .bl b
theorem pd_non {j pos} : PED X W (.Constant .none j pos) (dC .non) := pd_c pe_non fun _ _ => .non
theorem pd_str {x j pos} : PED X W (.Constant (.str x) j pos) (dC (.str x)) := pd_c pe_str fun _ _ => .str x
theorem pd_op {op : Operator} {f : D2} {r : R2} (ho : OpR X (binaryOp op) r) (hs : Sim2 (CtxOf X) f r) (ha : PED X W e1 a) (hb : PED X W e2 b) : PED X W (.BinOp e1 op e2 pos) (dOp f a b) := pe_weak (pe_op ho ha hb) fun _ _ _ => lift_op hs
theorem pd_un {op : UnaryOp} {f : D1} {r : V → Hp → VK → Prop} (ho : UnR X (unaryOp op) r) (hs : Sim1 (CtxOf X) f r) (ha : PED X W e1 a) : PED X W (.UnaryOp op e1 pos) (dUn f a) := pe_weak (pe_un ho ha) fun _ _ _ => lift_un hs
theorem pd_cmp {op : CmpOp} {f : D2} {r : R2} (ho : OpR X (compareOp op) r) (hs : Sim2 (CtxOf X) f r) (ha : PED X W e1 a) (hb : PED X W e2 b) (hm : behindInMarks op e2 = false := by first | exact nomark _ | rfl) : PED X W (.Compare e1 [op] [e2] pos) (dOp f a b) := pe_weak (pe_cmpR ho ha hb hm) fun _ _ _ => lift_op hs
theorem pa_nilD : PAD X W [] dNil := pa_weak pa_nil fun _ _ _ => lift_nil
theorem pa_consD (ha : PED X W e a) (hr : PAD X W es as) (hs : starEach (e :: es) X.env = (false, eval e X.env) :: starEach es X.env := by rfl) : PAD X W (e :: es) (dCons a as) := pa_weak (pa_cons ha hr hs) fun _ _ _ => lift_cons
theorem pd_tup {x1} (h : PAD X W es as) : PED X W (.Tuple es x1 pos) (dTup as) := pe_weak (pe_tup h) fun σ H Q ⟨F, ρ, κ, δ, XD, QD, S, R, h, P, PX⟩ =>
  ⟨F, ρ, κ, δ, XD, _, S, R, h, fun F1 ρ1 κ1 H1 xs vs e1 S1 R1 h1 => ⟨by rw [← R1.length]; exact h1.1, new_tup S1 R1 h1.2 (P.ext e1)⟩, PX⟩
theorem pd_lst (m : Bool) (h : PAD X W es as) : PED X W (.List es pos) (dLst m as) := pe_weak (pe_lst h) fun σ H Q ⟨F, ρ, κ, δ, XD, QD, S, R, h, P, PX⟩ =>
  ⟨F, ρ, κ, δ, XD, _, S, R, h, fun F1 ρ1 κ1 H1 xs vs e1 S1 R1 h1 => ⟨by rw [← R1.length]; exact h1.1, new_lst S1 R1 h1.2 (P.ext e1)⟩, PX⟩
theorem pd_one {op} (h : PED X W e a) : PED X W (.BoolOp op [e] pos) a := pe_one h
theorem pd_and (ha : PED X W e1 a) (hb : PED X W (.BoolOp .And (e2 :: es) pos) b) : PED X W (.BoolOp .And (e1 :: e2 :: es) pos) (dAnd a b) := pe_weak (pe_andT ha hb) fun σ H Q ⟨F, ρ, κ, δ, XD, QD, S, R, h, P, PX⟩ =>
  ⟨F, ρ, κ, δ, XD, _, S, R, h, fun F1 ρ1 κ1 H1 x v e1 S1 R1 h1 => by
    obtain ⟨t, ht, q⟩ := withTruth_at S1 R1 h1
    refine ⟨t, ht, ?_⟩
    cases t with
    | true => exact ⟨F1, ρ1, κ1, δ, XD, _, S1, R.ext e1, q, P.ext e1, PX.ext e1⟩
    | false => exact P _ _ _ _ _ _ e1 S1 R1 q, PX⟩
theorem pd_or (ha : PED X W e1 a) (hb : PED X W (.BoolOp .Or (e2 :: es) pos) b) : PED X W (.BoolOp .Or (e1 :: e2 :: es) pos) (dOr a b) := pe_weak (pe_orT ha hb) fun σ H Q ⟨F, ρ, κ, δ, XD, QD, S, R, h, P, PX⟩ =>
  ⟨F, ρ, κ, δ, XD, _, S, R, h, fun F1 ρ1 κ1 H1 x v e1 S1 R1 h1 => by
    obtain ⟨t, ht, q⟩ := withTruth_at S1 R1 h1
    refine ⟨t, ht, ?_⟩
    cases t with
    | false => exact ⟨F1, ρ1, κ1, δ, XD, _, S1, R.ext e1, q, P.ext e1, PX.ext e1⟩
    | true => exact P _ _ _ _ _ _ e1 S1 R1 q, PX⟩
theorem pd_not (ha : PED X W e1 a) : PED X W (.UnaryOp .Not e1 pos) (dNot a) := pe_weak (pe_notT ha) fun σ H Q ⟨F, ρ, κ, δ, XD, QD, S, R, h, P, PX⟩ =>
  ⟨F, ρ, κ, δ, XD, _, S, R, h, fun F1 ρ1 κ1 H1 x v e1 S1 R1 h1 => by
    obtain ⟨t, ht, q⟩ := withTruth_at S1 R1 h1
    exact ⟨t, ht, P _ _ _ _ _ _ e1 S1 (.bl _) q⟩, PX⟩
theorem pd_if (ht : PTD X W e1 t) (ha : PED X W e2 a) (hb : PED X W e3 b) : PED X W (.IfExp e1 e2 e3 pos) (dIf t a b) := pe_weak (pe_ifExp ht ha hb) fun σ H Q ⟨F, ρ, κ, δ, XD, QD, S, R, h, P, PX⟩ =>
  ⟨F, ρ, κ, δ, XD, _, S, R, h, fun F1 ρ1 κ1 H1 k e1 S1 h1 => by
    cases k with
    | true => exact ⟨F1, ρ1, κ1, δ, XD, _, S1, R.ext e1, h1, P.ext e1, PX.ext e1⟩
    | false => exact ⟨F1, ρ1, κ1, δ, XD, _, S1, R.ext e1, h1, P.ext e1, PX.ext e1⟩, PX⟩
theorem lift_chain {C : Ctx} {f g : D2} {r r' : R2} (hs : Sim2 C f r) (hs' : Sim2 C g r') {σ : L2.St} {H : Hp} {Q : VK} (h : liftE C W (dChain f g a b c) σ H Q) : tChain r r' (liftE C W a) (liftE C W b) (liftE C W c) σ H Q := by
  obtain ⟨F, ρ, κ, δ, XD, QD, S, R, h, P, PX⟩ := h
  refine ⟨F, ρ, κ, δ, XD, _, S, R, h, fun F1 ρ1 κ1 H1 x v e1 S1 R1 h1 => ⟨F1, ρ1, κ1, δ, XD, _, S1, R.ext e1, h1, fun F2 ρ2 κ2 H2 y u e2 S2 R2 h2 => hs _ _ _ _ _ _ _ _ _ _ S2 (R1.ext e2) R2 h2 fun F3 ρ3 κ3 H3 z w e3 S3 R3 h3 => ?_, PX.ext e1⟩, PX⟩
  obtain ⟨k, rfl, q⟩ := h3
  cases R3
  refine ⟨k, rfl, ?_⟩
  have e123 := e1.trans (e2.trans e3)
  cases k with
  | true => exact ⟨F3, ρ3, κ3, δ, XD, _, S3, R.ext e123, q, fun F4 ρ4 κ4 H4 w u4 e4 S4 R4 h4 => hs' _ _ _ _ _ _ _ _ _ _ S4 (R2.ext (e3.trans e4)) R4 h4 (P.ext (e123.trans e4)), PX.ext e123⟩
  | false => exact P _ _ _ _ _ _ e123 S3 (.bl _) q
theorem pd_chain {op op' : CmpOp} {f g : D2} {r r' : R2} (ho : OpR X (compareOp op) r) (hs : Sim2 (CtxOf X) f r) (ho' : OpR X (compareOp op') r') (hs' : Sim2 (CtxOf X) g r') (ha : PED X W e1 a) (hb : PED X W e2 b) (hc : PED X W e3 c)
    (hm : lastMarks [op, op'] [e2, e3] = false := by with_unfolding_all rfl) : PED X W (.Compare e1 [op, op'] [e2, e3] pos) (dChain f g a b c) := pe_weak (pe_chain ho ho' ha hb hc hm) fun _ _ _ => lift_chain hs hs'
/-! tests -/
theorem lift_tBl {C : Ctx} {te : TE} {de : DE} (hl : ∀ {σ H Q}, liftE C W de σ H Q → te σ H Q) {σ : L2.St} {H : Hp} {Q : Bool → Hp → Prop} (h : liftT C W (tBl de) σ H Q) : tTest te σ H Q := by
  obtain ⟨F, ρ, κ, δ, XD, QD, S, R, h, P, PX⟩ := h
  refine hl ⟨F, ρ, κ, δ, XD, _, S, R, h, fun F1 ρ1 κ1 H1 x v e1 S1 R1 h1 => ?_, PX⟩
  obtain ⟨k, rfl, q⟩ := h1
  cases R1
  exact ⟨k, rfl, P _ _ _ _ _ e1 S1 q⟩
theorem pt_cmpD {op : CmpOp} {f : D2} {r : R2} (ho : OpR X (compareOp op) r) (hs : Sim2 (CtxOf X) f r) (ha : PED X W e1 a) (hb : PED X W e2 b) (hm : behindInMarks op e2 = false := by first | exact nomark _ | rfl) : PTD X W (.Compare e1 [op] [e2] pos) (tBl (dOp f a b)) :=
  pt_weak (pt_cmpR ho ha hb hm) fun _ _ _ => lift_tBl (lift_op hs)
theorem pt_chainD {op op' : CmpOp} {f g : D2} {r r' : R2} (ho : OpR X (compareOp op) r) (hs : Sim2 (CtxOf X) f r) (ho' : OpR X (compareOp op') r') (hs' : Sim2 (CtxOf X) g r') (ha : PED X W e1 a) (hb : PED X W e2 b) (hc : PED X W e3 c)
    (hm : lastMarks [op, op'] [e2, e3] = false := by with_unfolding_all rfl) : PTD X W (.Compare e1 [op, op'] [e2, e3] pos) (tBl (dChain f g a b c)) := pt_weak (pt_chain ho ho' ha hb hc hm) fun _ _ _ => lift_tBl (lift_chain hs hs')
theorem pt_truD (ha : PED X W e a) (he : ∀ whole, isTrue e X.env whole = (do let v ← whole; standAt e.pos; holding [v] (truthy v)) := by intro _; rfl) : PTD X W e (tTru a) := pt_weak (pt_truth ha he) fun σ H Q ⟨F, ρ, κ, δ, XD, QD, S, R, h, P, PX⟩ =>
  ⟨F, ρ, κ, δ, XD, _, S, R, h, fun F1 ρ1 κ1 H1 x v e1 S1 R1 h1 => by
    obtain ⟨t, ht, q⟩ := withTruth_at S1 R1 h1
    exact ⟨t, ht, P _ _ _ _ _ e1 S1 q⟩, PX⟩
theorem pt_notD (ha : PTD X W e t) : PTD X W (.UnaryOp .Not e pos) (tNotD t) := pt_weak (pt_not ha) fun σ H Q ⟨F, ρ, κ, δ, XD, QD, S, R, h, P, PX⟩ =>
  ⟨F, ρ, κ, δ, XD, _, S, R, h, fun F1 ρ1 κ1 H1 x e1 S1 h1 => P _ _ _ _ _ e1 S1 h1, PX⟩
abbrev PWD (X : Cx) (W : WX) (e : Expr) (dt : DT) : Prop := PW X e (liftT (CtxOf X) W dt)
theorem pw_weak {e : Expr} {t t' : TT} (h : PW X e t) (w : ∀ σ H Q, t' σ H Q → t σ H Q) : PW X e t' := ⟨fun wh pins s σ H Q I q => h.run wh pins s σ H Q I (w σ H Q q)⟩
theorem pw_and1D (ha : PTD X W e t) : PWD X W (.BoolOp .And [e] pos) t := pw_and1 ha
theorem pw_or1D (ha : PTD X W e t) : PWD X W (.BoolOp .Or [e] pos) t := pw_or1 ha
theorem pw_andD (ha : PTD X W e1 t) (hb : PWD X W (.BoolOp .And (e2 :: es) pos) u) : PWD X W (.BoolOp .And (e1 :: e2 :: es) pos) (tAndD t u) := pw_weak (pw_and ha hb) fun σ H Q ⟨F, ρ, κ, δ, XD, QD, S, R, h, P, PX⟩ =>
  ⟨F, ρ, κ, δ, XD, _, S, R, h, fun F1 ρ1 κ1 H1 k e1 S1 h1 => by
    cases k with
    | true => exact ⟨F1, ρ1, κ1, δ, XD, _, S1, R.ext e1, h1, P.ext e1, PX.ext e1⟩
    | false => exact P _ _ _ _ _ e1 S1 h1, PX⟩
theorem pw_orD (ha : PTD X W e1 t) (hb : PWD X W (.BoolOp .Or (e2 :: es) pos) u) : PWD X W (.BoolOp .Or (e1 :: e2 :: es) pos) (tOrD t u) := pw_weak (pw_or ha hb) fun σ H Q ⟨F, ρ, κ, δ, XD, QD, S, R, h, P, PX⟩ =>
  ⟨F, ρ, κ, δ, XD, _, S, R, h, fun F1 ρ1 κ1 H1 k e1 S1 h1 => by
    cases k with
    | true => exact P _ _ _ _ _ e1 S1 h1
    | false => exact ⟨F1, ρ1, κ1, δ, XD, _, S1, R.ext e1, h1, P.ext e1, PX.ext e1⟩, PX⟩
/-! built-ins by name -/
theorem pd_callB {x : Str} {p : Pos} {id : String} {f : DN} {r : List V → Hp → VK → Prop} (hc : CallR X (.builtin id) r) (hs : SimN (CtxOf X) f r) (hm : X.mg x = none) (ha : PAD X W (e :: es) as) (hg : Gl X x := by rfl) (hv : bootBuiltins x = some (.builtin id) := by decide +kernel) (hn : x ≠ "__name__" := by decide) (hdb : (x == ("__debug__" : Str)) = false := by decide)
    (he : starEach (e :: es) X.env = (false, eval e X.env) :: starEach es X.env := by rfl) (hpl : (backTo pos (starEach es X.env)).any (·.1) = false := by rfl) : PED X W (.Call (.Name x p) (e :: es) [] pos) (dB f as) :=
  pe_weak (pe_callB hc hg hm hv ha hn hdb he hpl) fun _ _ _ => lift_B hs
theorem pd_callTy {x : Str} {p : Pos} {T : String} {f : DN} {r : List V → Hp → VK → Prop} (hc : CallR X (.type T) r) (hs : SimN (CtxOf X) f r) (hm : X.mg x = none) (ha : PAD X W (e :: es) as) (hg : Gl X x := by rfl) (hv : bootBuiltins x = some (.type T) := by decide +kernel) (hn : x ≠ "__name__" := by decide) (hdb : (x == ("__debug__" : Str)) = false := by decide)
    (he : starEach (e :: es) X.env = (false, eval e X.env) :: starEach es X.env := by rfl) (hpl : (backTo pos (starEach es X.env)).any (·.1) = false := by rfl) : PED X W (.Call (.Name x p) (e :: es) [] pos) (dB f as) :=
  pe_weak (pe_callTy hc hg hm hv ha hn hdb he hpl) fun _ _ _ => lift_B hs
theorem pd_tyName {x : Str} {p : Pos} {T : String} (hm : X.mg x = none) (hg : Gl X x := by rfl) (hv : bootBuiltins x = some (.type T) := by decide +kernel) (hn : x ≠ "__name__" := by decide) (hdb : (x == ("__debug__" : Str)) = false := by decide) : PED X W (.Name x p) (dC (.ty T)) :=
  pd_c (v := .ty T) (pe_bltn hg hm hv rfl hn hdb) fun _ _ => .ty T
theorem pd_glbRef {x : Str} {p : Pos} {f : Addr} (hm : X.mg x = some (.ref f)) (hg : Gl X x := by rfl) (hdb : (x == ("__debug__" : Str)) = false := by decide) : PED X W (.Name x p) (dC (.glb x)) :=
  pd_c (v := .ref f) (pe_glob hg hm rfl hdb) fun _ _ => .glb hm
theorem pd_glbStr {x y : Str} {p : Pos} (hm : ∃ t, X.mg x = some (.str y t)) (hg : Gl X x := by rfl) (hdb : (x == ("__debug__" : Str)) = false := by decide) : PED X W (.Name x p) (dC (.str y)) := by
  obtain ⟨t, hm⟩ := hm
  exact pd_c (v := .str y) (pe_glob hg hm ⟨t, rfl⟩ hdb) fun _ _ => .str y
theorem pd_glbInt {x : Str} {i : Int} {p : Pos} (hm : ∃ t, X.mg x = some (.int i t)) (hg : Gl X x := by rfl) (hdb : (x == ("__debug__" : Str)) = false := by decide) : PED X W (.Name x p) (dC (.int i)) := by
  obtain ⟨t, hm⟩ := hm
  exact pd_c (v := .int i) (pe_glob hg hm ⟨t, rfl⟩ hdb) fun _ _ => .int i
end

/-! ### operators over data -/
theorem OpR.or {X : Cx} {f : Value → Value → Sem Value} {r r' : R2} (h : OpR X f r) (h' : OpR X f r') : OpR X f (fun x y H Q => r x y H Q ∨ r' x y H Q) := by
  intro pins s σ H x y v u Q I rx ry q
  rcases q with q | q
  · exact h pins s σ H x y v u Q I rx ry q
  · exact h' pins s σ H x y v u Q I rx ry q
theorem CallR.or {X : Cx} {f : Value} {r r' : List V → Hp → VK → Prop} (h : CallR X f r) (h' : CallR X f r') : CallR X f (fun xs H Q => r xs H Q ∨ r' xs H Q) := by
  intro pins s σ H xs us Q I rx q
  rcases q with q | q
  · exact h pins s σ H xs us Q I rx q
  · exact h' pins s σ H xs us Q I rx q
/-- two whole numbers, under a condition -/
def fI (c : Int → Int → Prop) (g : Int → Int → D) : D2 := fun x y κ Q => match x, y with
  | .int i, .int j => c i j ∧ Q (g i j) κ
  | _, _ => False
theorem sim_I {C : Ctx} {c : Int → Int → Prop} {g : Int → Int → Int} : Sim2 C (fI c fun i j => .int (g i j)) (rI c fun i j => .int (g i j)) := by
  intro F ρ κ H x y v u QD Q S rx ry h P
  cases x <;> cases y <;> first | exact h.elim | skip
  cases rx; cases ry
  exact ⟨_, _, rfl, rfl, h.1, P _ _ _ _ _ _ (Ext.refl _ _) S (.int _) h.2⟩
theorem sim_IB {C : Ctx} {g : Int → Int → Bool} : Sim2 C (fI (fun _ _ => True) fun i j => .bl (g i j)) (rI0 fun i j => .bl (g i j)) := by
  intro F ρ κ H x y v u QD Q S rx ry h P
  cases x <;> cases y <;> first | exact h.elim | skip
  cases rx; cases ry
  exact ⟨_, _, rfl, rfl, P _ _ _ _ _ _ (Ext.refl _ _) S (.bl _) h.2⟩
theorem sim_I0 {C : Ctx} {g : Int → Int → Int} : Sim2 C (fI (fun _ _ => True) fun i j => .int (g i j)) (rI0 fun i j => .int (g i j)) := by
  intro F ρ κ H x y v u QD Q S rx ry h P
  cases x <;> cases y <;> first | exact h.elim | skip
  cases rx; cases ry
  exact ⟨_, _, rfl, rfl, P _ _ _ _ _ _ (Ext.refl _ _) S (.int _) h.2⟩
/-- a floor division's divisor -/
def CDivD (_ j : Int) : Prop := j ≠ 0 ∧ j.natAbs.log2 < 9000
theorem op_fdivD {X : Cx} : OpR X (binaryOp .FloorDiv) (rI CDivD fun i j => .int (i.fdiv j)) := opI fun _ _ _ _ _ _ _ hc q => floordiv_int hc.1 q (.inl (PyProof.noPylong_of_log2 hc.2))
def fSub : D2 := fI (fun _ _ => True) fun i j => .int (i - j)
def fDiv : D2 := fI CDivD fun i j => .int (i.fdiv j)
def fMod : D2 := fI (fun _ j => j ≠ 0) fun i j => .int (i.fmod j)
def fMulI : D2 := fI CMulW fun i j => .int (i * j)
def fPow : D2 := fI CPow fun i j => .int (i ^ j.toNat)
def fShl : D2 := fI CPow fun i j => .int (i * 2 ^ j.toNat)
def fShr : D2 := fI (fun _ j => 0 ≤ j) fun i j => .int (i / 2 ^ j.toNat)
def fAnd : D2 := fI (fun _ _ => True) fun i j => .int (Builtin.bitAnd i j)
def fOr : D2 := fI (fun _ _ => True) fun i j => .int (Builtin.bitOr i j)
def fLt : D2 := fI (fun _ _ => True) fun i j => .bl (decide (i < j))
def fLe : D2 := fI (fun _ _ => True) fun i j => .bl (decide (i ≤ j))
def fGt : D2 := fI (fun _ _ => True) fun i j => .bl (decide (j < i))
def fGe : D2 := fI (fun _ _ => True) fun i j => .bl (decide (j ≤ i))
section
variable {X : Cx} {W : WX} {e1 e2 : Expr} {a b : DE} {pos : Pos}
theorem pd_sub (ha : PED X W e1 a) (hb : PED X W e2 b) : PED X W (.BinOp e1 .Sub e2 pos) (dOp fSub a b) := pd_op op_sub sim_I0 ha hb
theorem pd_fdiv (ha : PED X W e1 a) (hb : PED X W e2 b) : PED X W (.BinOp e1 .FloorDiv e2 pos) (dOp fDiv a b) := pd_op op_fdivD sim_I ha hb
theorem pd_mod (ha : PED X W e1 a) (hb : PED X W e2 b) : PED X W (.BinOp e1 .Mod e2 pos) (dOp fMod a b) := pd_op op_modN sim_I ha hb
theorem pd_mulI (ha : PED X W e1 a) (hb : PED X W e2 b) : PED X W (.BinOp e1 .Mult e2 pos) (dOp fMulI a b) := pd_op op_mulW sim_I ha hb
theorem pd_pow (ha : PED X W e1 a) (hb : PED X W e2 b) : PED X W (.BinOp e1 .Pow e2 pos) (dOp fPow a b) := pd_op op_pow sim_I ha hb
theorem pd_shl (ha : PED X W e1 a) (hb : PED X W e2 b) : PED X W (.BinOp e1 .LShift e2 pos) (dOp fShl a b) := pd_op op_shl sim_I ha hb
theorem pd_shr (ha : PED X W e1 a) (hb : PED X W e2 b) : PED X W (.BinOp e1 .RShift e2 pos) (dOp fShr a b) := pd_op op_shr sim_I ha hb
theorem pd_band (ha : PED X W e1 a) (hb : PED X W e2 b) : PED X W (.BinOp e1 .BitAnd e2 pos) (dOp fAnd a b) := pd_op op_and sim_I0 ha hb
theorem pd_bor (ha : PED X W e1 a) (hb : PED X W e2 b) : PED X W (.BinOp e1 .BitOr e2 pos) (dOp fOr a b) := pd_op op_or sim_I0 ha hb
end
/-- a + b: numbers, texts, lists, tuples; what is new is kept, or a cell -/
def fAdd (m : Bool) : D2 := fun x y κ Q => match x, y with
  | .int i, .int j => Q (.int (i + j)) κ
  | .str i, .str j => i.length + j.length ≤ sizeLine ∧ Q (.str (i ++ j)) κ
  | x, y => match view x κ, view y κ with
    | some (.lst, xs), some (.lst, ys) => xs.length + ys.length ≤ sizeLine ∧ fNew m .lst (xs ++ ys) κ Q
    | some (.tup, xs), some (.tup, ys) => xs ≠ [] ∧ ys ≠ [] ∧ xs.length + ys.length ≤ sizeLine ∧ Q (.tup (xs ++ ys)) κ
    | _, _ => False
def rAddV (K : PySem.W.Frag) : R2 := fun x y H Q => (rI0 fun i j => .int (i + j)) x y H Q ∨ (∃ i j, x = .str i ∧ y = .str j ∧ i.length + j.length ≤ sizeLine ∧ Q (.str (i ++ j)) H) ∨ rCat x y H Q ∨ rCatT K x y H Q
theorem op_addV {X : Cx} : OpR X (binaryOp .Add) (rAddV X.K) := OpR.or op_add (OpR.or op_add_str (OpR.or op_cat op_catT))
theorem sim_add {C : Ctx} {m : Bool} : Sim2 C (fAdd m) (rAddV C.K) := by
  intro F ρ κ H x y v u QD Q S rx ry h P
  have key : (match view x κ, view y κ with
    | some (.lst, xs), some (.lst, ys) => xs.length + ys.length ≤ sizeLine ∧ fNew m .lst (xs ++ ys) κ QD
    | some (.tup, xs), some (.tup, ys) => xs ≠ [] ∧ ys ≠ [] ∧ xs.length + ys.length ≤ sizeLine ∧ QD (.tup (xs ++ ys)) κ
    | _, _ => False) → rAddV C.K v u H Q := by
    intro h
    cases ex : view x κ with
    | none => rw [ex] at h; exact h.elim
    | some p =>
      cases ey : view y κ with
      | none => rw [ex, ey] at h; exact (show False by obtain ⟨k, xs⟩ := p; cases k <;> exact h).elim
      | some q =>
        obtain ⟨k, xs⟩ := p
        obtain ⟨k', ys⟩ := q
        rw [ex, ey] at h
        obtain ⟨p, vs, rfl, hk, rl⟩ := view_at S rx ex
        obtain ⟨q, us, rfl, hk', rl'⟩ := view_at S ry ey
        have l1 := rl.length
        have l2 := rl'.length
        cases k <;> cases k' <;> first | exact h.elim | skip
        · exact .inr (.inr (.inl ⟨p, q, vs, us, rfl, rfl, hk, hk', by rw [← l1, ← l2]; exact h.1, new_lst S (rl.append rl') h.2 P⟩))
        · obtain ⟨h1, h2, h3, h4⟩ := h
          refine .inr (.inr (.inr ⟨p, q, vs, us, rfl, rfl, hk, hk', ?_, by rw [← l1, ← l2]; exact h3, fun z => ?_, fun _ => new_tup S (rl.append rl') h4 P⟩))
          · intro z
            rw [z] at l1
            cases xs with
            | nil => exact h1 rfl
            | cons => simp at l1
          · rw [z] at l2
            cases ys with
            | nil => exact absurd rfl h2
            | cons => simp at l2
  cases x with
  | int i =>
    cases y with
    | int j => cases rx; cases ry; exact .inl ⟨i, j, rfl, rfl, P _ _ _ _ _ _ (Ext.refl _ _) S (.int _) h⟩
    | _ => exact key h
  | str i =>
    cases y with
    | str j => cases rx; cases ry; exact .inr (.inl ⟨i, j, rfl, rfl, h.1, P _ _ _ _ _ _ (Ext.refl _ _) S (.str _) h.2⟩)
    | _ => exact key h
  | _ => exact key h
theorem pd_add {X : Cx} {W : WX} {e1 e2 : Expr} {a b : DE} {pos : Pos} (m : Bool) (ha : PED X W e1 a) (hb : PED X W e2 b) : PED X W (.BinOp e1 .Add e2 pos) (dOp (fAdd m) a b) := pd_op op_addV sim_add ha hb
end DL

/-! DL: built-ins, subscripts, comparisons of data. -/
namespace DL
open PySem PySem.Spec PyProof.Rows L2

/-! ### data as the library's own data -/
def keyD : Key → D
  | .inl i => .int i
  | .inr x => .str x
def keyP : Key → PyData
  | .inl i => .int i
  | .inr x => .str x
mutual
inductive Pd (κ : Kap) : D → PyData → Prop
  | non : Pd κ .non .none
  | bl (b : Bool) : Pd κ (.bl b) (.bool b)
  | int (i : Int) : Pd κ (.int i) (.int i)
  | str (x : Str) : Pd κ (.str x) (.str x)
  | lst {x : D} {xs : List D} {ps : List PyData} (h : view x κ = some (.lst, xs)) (t : PdL κ xs ps) : Pd κ x (.list ps)
  | tup {x : D} {xs : List D} {ps : List PyData} (h : view x κ = some (.tup, xs)) (t : PdL κ xs ps) : Pd κ x (.tuple ps)
  | dct {x : D} {ks : List Key} {xs : List D} {ps : List PyData} (h : view x κ = some (.dct ks, xs)) (t : PdL κ xs ps) : Pd κ x (.dict ((ks.map keyP).zip ps))
inductive PdL (κ : Kap) : List D → List PyData → Prop
  | nil : PdL κ [] []
  | cons {d : D} {ds : List D} {p : PyData} {ps : List PyData} (h : Pd κ d p) (t : PdL κ ds ps) : PdL κ (d :: ds) (p :: ps)
end
mutual
def pdata : D → Option PyData
  | .non => some .none
  | .bl b => some (.bool b)
  | .int i => some (.int i)
  | .str x => some (.str x)
  | .node .lst xs => match pdataL xs with
    | some ps => some (.list ps)
    | none => none
  | .node .tup xs => match pdataL xs with
    | some ps => some (.tuple ps)
    | none => none
  | .node (.dct ks) xs => match pdataL xs with
    | some ps => some (.dict ((ks.map keyP).zip ps))
    | none => none
  | _ => none
def pdataL : List D → Option (List PyData)
  | [] => some []
  | x :: xs => match pdata x, pdataL xs with
    | some p, some ps => some (p :: ps)
    | _, _ => none
end
mutual
theorem pd_of {κ : Kap} : ∀ {x : D} {p : PyData}, pdata x = some p → Pd κ x p
  | .non, _, h => by cases h; exact .non
  | .bl b, _, h => by cases h; exact .bl b
  | .int i, _, h => by cases h; exact .int i
  | .str x, _, h => by cases h; exact .str x
  | .node .lst xs, p, h => by
    unfold pdata at h
    cases e : pdataL xs with
    | none => rw [e] at h; cases h
    | some ps => rw [e] at h; cases h; exact .lst rfl (pdL_of e)
  | .node .tup xs, p, h => by
    unfold pdata at h
    cases e : pdataL xs with
    | none => rw [e] at h; cases h
    | some ps => rw [e] at h; cases h; exact .tup rfl (pdL_of e)
  | .node (.dct ks) xs, p, h => by
    unfold pdata at h
    cases e : pdataL xs with
    | none => rw [e] at h; cases h
    | some ps => rw [e] at h; cases h; exact .dct rfl (pdL_of e)
  | .node .klst xs, p, h => by cases h
  | .node (.obj _ _) xs, p, h => by cases h
  | .node (.exc _ _) xs, p, h => by cases h
  | .ty _, _, h => by cases h
  | .glb _, _, h => by cases h
  | .cell _, _, h => by cases h
theorem pdL_of {κ : Kap} : ∀ {xs : List D} {ps : List PyData}, pdataL xs = some ps → PdL κ xs ps
  | [], _, h => by cases h; exact .nil
  | x :: xs, _, h => by
    unfold pdataL at h
    cases e1 : pdata x with
    | none => rw [e1] at h; cases h
    | some p =>
      cases e2 : pdataL xs with
      | none => rw [e1, e2] at h; cases h
      | some ps => rw [e1, e2] at h; cases h; exact .cons (pd_of e1) (pdL_of e2)
end

/-- what a rule may lean on where it stands -/
structure Good (k : Nat) (X : Cx) (W : WX) : Prop where
  tk : L2N.Takes X W
  po : PassesOwn (model X.prog X.w) X.A X.env X.xe
  rm : Room k X.A
  gd : X.A.guards = some []
  sm : ∃ o, X.base.get? sysModules = some o
  calm : X.calm = true
  nd : X.N.Nodup
theorem Good.mono {j k : Nat} {X : Cx} {W : WX} (g : Good k X W) (h : j ≤ k) : Good j X W := ⟨g.tk, g.po, g.rm.mono h, g.gd, g.sm, g.calm, g.nd⟩
section
variable {X : Cx} {pins : List (Addr × Obj)} {σ : L2.St} {H : Hp} {s : Shared} {F : Hp} {ρ : Loc0} {κ : Kap}
theorem pairs_read : ∀ {es : List DictEntry} {kvs : List (Key × Value)} {P : Program} {w : World}, Pairs (mixKind P w) es kvs → (∃ as, ReadsAll s.heap (es.map (·.key)) ((kvs.map (·.1)).map keyP) as ∧ as = []) ∧ es.map (·.val) = kvs.map (·.2)
  | _, _, _, _, .nil => ⟨⟨[], .nil, rfl⟩, rfl⟩
  | _, _, P, w, .cons (e := e) (kv := kv) h1 h2 t => by
    obtain ⟨⟨as, h3, h4⟩, h5⟩ := pairs_read t
    subst h4
    refine ⟨⟨[] ++ [], ?_, rfl⟩, ?_⟩
    · rw [List.map_cons, List.map_cons, List.map_cons]
      refine .cons ?_ h3
      have h1' : keyIs kv.1 e.key = true := h1
      rcases keyIs_shape h1' with ⟨i, t, e1, e2⟩ | ⟨x, t, e1, e2⟩
      · rw [e1, e2]; exact .int i t
      · rw [e1, e2]; exact .str x t
    · rw [List.map_cons, List.map_cons, h5, h2]
theorem kv_split : ∀ {kvs : List (Key × V)} {vs : List (Key × Value)}, KV kvs vs → vs.map (·.1) = kvs.map (·.1) ∧ Vals (kvs.map (·.2)) (vs.map (·.2))
  | _, _, .nil => ⟨rfl, .nil⟩
  | _, _, .cons r t => by
    obtain ⟨h1, h2⟩ := kv_split t
    exact ⟨by rw [List.map_cons, List.map_cons, h1, r.1], .cons r.2 h2⟩
theorem dk_zip {as : List PyData} {bs : List PyData} (h : as.length = bs.length) : (as.zip bs).map (·.1) = as ∧ (as.zip bs).map (·.2) = bs := ⟨List.map_fst_zip (Nat.le_of_eq h), List.map_snd_zip (Nat.le_of_eq h.symm)⟩
theorem PdL.length : ∀ {xs : List D} {ps : List PyData}, PdL κ xs ps → xs.length = ps.length
  | _, _, .nil => rfl
  | _, _, .cons _ t => congrArg (· + 1) (PdL.length t)
mutual
theorem Pd.reads (I : Inv X pins σ H s) (sm : H sysModules = none) (S : StR (CtxOf X) F ρ κ H) : ∀ {x : D} {p : PyData} {v : V} {u : Value}, Pd κ x p → Rep (CtxOf X) F ρ x v → RelV v u → ∃ as, Reads s.heap u p as ∧ sysModules ∉ as
  | _, _, _, _, .non, r, rv => by cases r; cases rv; exact ⟨_, .none, fun h => by cases h⟩
  | _, _, _, _, .bl b, r, rv => by cases r; cases rv; exact ⟨_, .bool b, fun h => by cases h⟩
  | _, _, _, _, .int i, r, rv => by cases r; obtain ⟨t, rfl⟩ := rv; exact ⟨_, .int i t, fun h => by cases h⟩
  | _, _, _, _, .str x, r, rv => by cases r; obtain ⟨t, rfl⟩ := rv; exact ⟨_, .str x t, fun h => by cases h⟩
  | _, _, _, _, .lst h t, r, rv => by
    obtain ⟨a, vs, rfl, hk, rl⟩ := view_at S r h
    cases rv
    obtain ⟨its, rv, ⟨o, n, ho, hc, hdd, hd⟩, _⟩ := I.list (SqL.of hk)
    obtain ⟨as, hr, hn⟩ := PdL.reads I sm S t rl rv
    refine ⟨_, .list ho hc hd hr, fun hm => ?_⟩
    rcases List.mem_cons.mp hm with e | e
    · have hk' : H a = some (.lst vs) := hk
      rw [← e, sm] at hk'; cases hk'
    · exact hn e
  | _, _, _, _, .tup h t, r, rv => by
    obtain ⟨a, vs, rfl, hk, rl⟩ := view_at S r h
    cases rv
    obtain ⟨its, rv, ⟨o, ho, hc, n, hd⟩, _⟩ := I.tuple hk
    obtain ⟨as, hr, hn⟩ := PdL.reads I sm S t rl rv
    exact ⟨_, .tuple ho hc hd hr, hn⟩
  | _, _, _, _, .dct (ks := ks) (ps := ps) h t, r, rv => by
    obtain ⟨a, vs, rfl, ⟨kvs, hk, hk1, hk2⟩, rl⟩ := view_at S r h
    cases rv
    obtain ⟨_, hsys, vals, rel, o, es, ep, ho, hx, hd, _, hp, _⟩ := dk_of I.hok hk
    obtain ⟨q1, q2⟩ := kv_split rel
    obtain ⟨⟨as, hr, h0⟩, hv⟩ := pairs_read (s := s) hp
    subst h0
    rw [hk2] at q2
    obtain ⟨bs, hr2, hn⟩ := PdL.reads I sm S t rl (hv ▸ q2)
    have hl : (ks.map keyP).length = ps.length := by
      rw [← t.length, rl.length, ← hk1, ← hk2]
      simp only [List.length_map]
    obtain ⟨z1, z2⟩ := dk_zip hl
    refine ⟨_, .dict (as := []) (bs := bs) ho hx.1 hd (by rw [z1, ← hk1, ← q1]; exact hr) (by rw [z2]; exact hr2), fun hm => ?_⟩
    have hm' : sysModules ∈ a :: bs := hm
    rcases List.mem_cons.mp hm' with e | e
    · rw [← e, sm] at hk; cases hk
    · exact hn e
theorem PdL.reads (I : Inv X pins σ H s) (sm : H sysModules = none) (S : StR (CtxOf X) F ρ κ H) : ∀ {xs : List D} {ps : List PyData} {vs : List V} {us : List Value}, PdL κ xs ps → RepL (CtxOf X) F ρ xs vs → Vals vs us → ∃ as, ReadsAll s.heap us ps as ∧ sysModules ∉ as
  | _, _, _, _, .nil, r, rv => by cases r; cases rv; exact ⟨_, .nil, fun h => by cases h⟩
  | _, _, _, _, .cons h t, r, rv => by
    cases r with
    | cons r1 r2 =>
      cases rv with
      | cons v1 v2 =>
        obtain ⟨as, q1, n1⟩ := Pd.reads I sm S h r1 v1
        obtain ⟨bs, q2, n2⟩ := PdL.reads I sm S t r2 v2
        exact ⟨_, .cons q1 q2, fun hm => (List.mem_append.mp hm).elim n1 n2⟩
end
theorem Inv.sysm (I : Inv X pins σ H s) (sm : ∃ o, X.base.get? sysModules = some o) : H sysModules = none := let ⟨o, h⟩ := sm; (I.bs _ _ h).2
end

/-- two data, a truth -/
def fDat (g : PyData → PyData → Bool) : D2 := fun x y κ Q => ∃ p q, Pd κ x p ∧ Pd κ y q ∧ SeqAt.shaped p = true ∧ SeqAt.shaped q = true ∧ Q (.bl (g p q)) κ
def rDat (C : Ctx) (g : PyData → PyData → Bool) : R2 := fun v u H Q => ∃ F ρ κ x y p q, StR C F ρ κ H ∧ Rep C F ρ x v ∧ Rep C F ρ y u ∧ Pd κ x p ∧ Pd κ y q ∧ SeqAt.shaped p = true ∧ SeqAt.shaped q = true ∧ Q (.bl (g p q)) H
theorem sim_dat {C : Ctx} {g : PyData → PyData → Bool} : Sim2 C (fDat g) (rDat C g) := fun F ρ κ H x y v u QD Q S rx ry ⟨p, q, h1, h2, h3, h4, h5⟩ P => ⟨F, ρ, κ, x, y, p, q, S, rx, ry, h1, h2, h3, h4, P _ _ _ _ _ _ (Ext.refl _ _) S (.bl _) h5⟩
/-- x in ys: data in a list or a tuple -/
def inP (d : PyData) : PyData → Bool
  | .list ds => ds.any fun z => PyData.eqv z d
  | .tuple ds => ds.any fun z => PyData.eqv z d
  | _ => false
section
variable {X : Cx} {W : WX} {k : Nat}
theorem op_eqDat (g : Good k X W) : OpR X (compareOp .Eq) (rDat (CtxOf X) PyData.eqv) := by
  intro pins s σ H x y v u Q I rx ry ⟨F, ρ, κ, dx, dy, p, q, S, r1, r2, h1, h2, h3, h4, h5⟩
  obtain ⟨as, q1, _⟩ := Pd.reads I (Inv.sysm I g.sm) S h1 r1 rx
  obtain ⟨bs, q2, _⟩ := Pd.reads I (Inv.sysm I g.sm) S h2 r2 ry
  exact SeqAt.compareEq_shaped q1 q2 h3 h4 g.rm.units ⟨.bl _, H, I, rfl, h5⟩
theorem op_neDat (g : Good k X W) : OpR X (compareOp .NotEq) (rDat (CtxOf X) fun p q => !PyData.eqv p q) := by
  intro pins s σ H x y v u Q I rx ry ⟨F, ρ, κ, dx, dy, p, q, S, r1, r2, h1, h2, h3, h4, h5⟩
  obtain ⟨as, q1, _⟩ := Pd.reads I (Inv.sysm I g.sm) S h1 r1 rx
  obtain ⟨bs, q2, _⟩ := Pd.reads I (Inv.sysm I g.sm) S h2 r2 ry
  exact SeqAt.compareNe_shaped q1 q2 h3 h4 g.rm.units ⟨.bl _, H, I, rfl, h5⟩
end
def fEq : D2 := fDat PyData.eqv
def fNe : D2 := fDat fun p q => !PyData.eqv p q
section
variable {X : Cx} {W : WX} {k : Nat} {e1 e2 : Expr} {a b : DE} {pos : Pos}
theorem pd_eq (g : Good k X W) (ha : PED X W e1 a) (hb : PED X W e2 b) : PED X W (.Compare e1 [.Eq] [e2] pos) (dOp fEq a b) := pd_cmp (op_eqDat g) sim_dat ha hb
theorem pd_ne (g : Good k X W) (ha : PED X W e1 a) (hb : PED X W e2 b) : PED X W (.Compare e1 [.NotEq] [e2] pos) (dOp fNe a b) := pd_cmp (op_neDat g) sim_dat ha hb
theorem pt_eq (g : Good k X W) (ha : PED X W e1 a) (hb : PED X W e2 b) : PTD X W (.Compare e1 [.Eq] [e2] pos) (tBl (dOp fEq a b)) := pt_cmpD (op_eqDat g) sim_dat ha hb
theorem pt_ne (g : Good k X W) (ha : PED X W e1 a) (hb : PED X W e2 b) : PTD X W (.Compare e1 [.NotEq] [e2] pos) (tBl (dOp fNe a b)) := pt_cmpD (op_neDat g) sim_dat ha hb
end

/-! ### order: numbers, texts -/
def fOrd (gi : Int → Int → Bool) (gs : Str → Str → Bool) : D2 := fun x y κ Q => match x, y with
  | .int i, .int j => Q (.bl (gi i j)) κ
  | .str i, .str j => Q (.bl (gs i j)) κ
  | _, _ => False
def rOrd (gi : Int → Int → Bool) (gs : Str → Str → Bool) : R2 := fun x y H Q => (rI0 fun i j => .bl (gi i j)) x y H Q ∨ ∃ i j, x = .str i ∧ y = .str j ∧ Q (.bl (gs i j)) H
theorem sim_ord {C : Ctx} {gi : Int → Int → Bool} {gs : Str → Str → Bool} : Sim2 C (fOrd gi gs) (rOrd gi gs) := by
  intro F ρ κ H x y v u QD Q S rx ry h P
  cases x <;> cases y <;> first | exact h.elim | skip
  · cases rx; cases ry; exact .inl ⟨_, _, rfl, rfl, P _ _ _ _ _ _ (Ext.refl _ _) S (.bl _) h⟩
  · cases rx; cases ry; exact .inr ⟨_, _, rfl, rfl, P _ _ _ _ _ _ (Ext.refl _ _) S (.bl _) h⟩
def fLtS : D2 := fOrd (fun i j => decide (i < j)) fun i j => decide (i.cps.toList < j.cps.toList)
def fLeS : D2 := fOrd (fun i j => decide (i ≤ j)) fun i j => !decide (j.cps.toList < i.cps.toList)
def fGtS : D2 := fOrd (fun i j => decide (j < i)) fun i j => decide (j.cps.toList < i.cps.toList)
def fGeS : D2 := fOrd (fun i j => decide (j ≤ i)) fun i j => !decide (i.cps.toList < j.cps.toList)
section
variable {X : Cx} {W : WX} {k : Nat} {e1 e2 e3 : Expr} {a b c : DE} {pos : Pos}
theorem op_ltS : OpR X (compareOp .Lt) (rOrd (fun i j => decide (i < j)) fun i j => decide (i.cps.toList < j.cps.toList)) := OpR.or op_lt op_lt_str
theorem op_leS : OpR X (compareOp .LtE) (rOrd (fun i j => decide (i ≤ j)) fun i j => !decide (j.cps.toList < i.cps.toList)) := OpR.or op_le op_le_str
theorem op_gtS : OpR X (compareOp .Gt) (rOrd (fun i j => decide (j < i)) fun i j => decide (j.cps.toList < i.cps.toList)) := OpR.or op_gt op_gt_str
theorem op_geS : OpR X (compareOp .GtE) (rOrd (fun i j => decide (j ≤ i)) fun i j => !decide (i.cps.toList < j.cps.toList)) := OpR.or op_ge op_ge_str
theorem pd_lt (ha : PED X W e1 a) (hb : PED X W e2 b) : PED X W (.Compare e1 [.Lt] [e2] pos) (dOp fLtS a b) := pd_cmp op_ltS sim_ord ha hb
theorem pd_le (ha : PED X W e1 a) (hb : PED X W e2 b) : PED X W (.Compare e1 [.LtE] [e2] pos) (dOp fLeS a b) := pd_cmp op_leS sim_ord ha hb
theorem pd_gt (ha : PED X W e1 a) (hb : PED X W e2 b) : PED X W (.Compare e1 [.Gt] [e2] pos) (dOp fGtS a b) := pd_cmp op_gtS sim_ord ha hb
theorem pd_ge (ha : PED X W e1 a) (hb : PED X W e2 b) : PED X W (.Compare e1 [.GtE] [e2] pos) (dOp fGeS a b) := pd_cmp op_geS sim_ord ha hb
theorem pt_lt (ha : PED X W e1 a) (hb : PED X W e2 b) : PTD X W (.Compare e1 [.Lt] [e2] pos) (tBl (dOp fLtS a b)) := pt_cmpD op_ltS sim_ord ha hb
theorem pt_le (ha : PED X W e1 a) (hb : PED X W e2 b) : PTD X W (.Compare e1 [.LtE] [e2] pos) (tBl (dOp fLeS a b)) := pt_cmpD op_leS sim_ord ha hb
theorem pt_gt (ha : PED X W e1 a) (hb : PED X W e2 b) : PTD X W (.Compare e1 [.Gt] [e2] pos) (tBl (dOp fGtS a b)) := pt_cmpD op_gtS sim_ord ha hb
theorem pt_ge (ha : PED X W e1 a) (hb : PED X W e2 b) : PTD X W (.Compare e1 [.GtE] [e2] pos) (tBl (dOp fGeS a b)) := pt_cmpD op_geS sim_ord ha hb
end

/-! ### is -/
def isNon : D → Bool
  | .non => true
  | _ => false
def fIs : D2 := fun x y κ Q => y = .non ∧ Q (.bl (isNon x)) κ
def fIsNot : D2 := fun x y κ Q => y = .non ∧ Q (.bl (!isNon x)) κ
theorem isNon_at {C : Ctx} {F : Hp} {ρ : Loc0} {x : D} {v : V} (r : Rep C F ρ x v) : decide (v = .non) = isNon x := by
  cases r <;> rfl
section
variable {X : Cx} {W : WX} {k : Nat} {e1 e2 : Expr} {a b : DE} {pos : Pos}
theorem sim_is {C : Ctx} : Sim2 C fIs (fun x y H Q => y = .non ∧ Q (.bl (decide (x = .non))) H) := fun F ρ κ H x y v u QD Q S rx ry ⟨h1, h2⟩ P => by
  subst h1; cases ry
  exact ⟨rfl, P _ _ _ _ _ _ (Ext.refl _ _) S (.bl _) (by rw [isNon_at rx]; exact h2)⟩
theorem sim_isNot {C : Ctx} : Sim2 C fIsNot (fun x y H Q => y = .non ∧ Q (.bl (!decide (x = .non))) H) := fun F ρ κ H x y v u QD Q S rx ry ⟨h1, h2⟩ P => by
  subst h1; cases ry
  exact ⟨rfl, P _ _ _ _ _ _ (Ext.refl _ _) S (.bl _) (by rw [isNon_at rx]; exact h2)⟩
theorem pd_is (ha : PED X W e1 a) (hb : PED X W e2 b) : PED X W (.Compare e1 [.Is] [e2] pos) (dOp fIs a b) := pd_cmp op_isN sim_is ha hb
theorem pd_isNot (ha : PED X W e1 a) (hb : PED X W e2 b) : PED X W (.Compare e1 [.IsNot] [e2] pos) (dOp fIsNot a b) := pd_cmp op_notN sim_isNot ha hb
theorem pt_is (ha : PED X W e1 a) (hb : PED X W e2 b) : PTD X W (.Compare e1 [.Is] [e2] pos) (tBl (dOp fIs a b)) := pt_cmpD op_isN sim_is ha hb
theorem pt_isNot (ha : PED X W e1 a) (hb : PED X W e2 b) : PTD X W (.Compare e1 [.IsNot] [e2] pos) (tBl (dOp fIsNot a b)) := pt_cmpD op_notN sim_isNot ha hb
end

/-! ### in -/
def strIn (i j : Str) : Bool := !(Builtin.Str.occurrences j i 0 j.length 1).isEmpty
def fIn (neg : Bool) : D2 := fun x y κ Q => match x, y with
  | .str i, .str j => Q (.bl (if neg then !strIn i j else strIn i j)) κ
  | x, y => ∃ p q, Pd κ x p ∧ Pd κ y q ∧ SeqAt.shaped p = true ∧ SeqAt.shaped q = true ∧ (∃ ds, q = .list ds ∨ q = .tuple ds) ∧ Q (.bl (if neg then !inP p q else inP p q)) κ
def rInP (C : Ctx) (neg : Bool) : R2 := fun v u H Q => (∃ i j, v = .str i ∧ u = .str j ∧ Q (.bl (if neg then !strIn i j else strIn i j)) H) ∨
  ∃ F ρ κ x y p q, StR C F ρ κ H ∧ Rep C F ρ x v ∧ Rep C F ρ y u ∧ Pd κ x p ∧ Pd κ y q ∧ SeqAt.shaped p = true ∧ SeqAt.shaped q = true ∧ (∃ ds, q = .list ds ∨ q = .tuple ds) ∧ Q (.bl (if neg then !inP p q else inP p q)) H
theorem sim_in {C : Ctx} {neg : Bool} : Sim2 C (fIn neg) (rInP C neg) := by
  intro F ρ κ H x y v u QD Q S rx ry h P
  have key : (∃ p q, Pd κ x p ∧ Pd κ y q ∧ SeqAt.shaped p = true ∧ SeqAt.shaped q = true ∧ (∃ ds, q = .list ds ∨ q = .tuple ds) ∧ QD (.bl (if neg then !inP p q else inP p q)) κ) → rInP C neg v u H Q :=
    fun ⟨p, q, h1, h2, h3, h4, h5, h6⟩ => .inr ⟨F, ρ, κ, x, y, p, q, S, rx, ry, h1, h2, h3, h4, h5, P _ _ _ _ _ _ (Ext.refl _ _) S (.bl _) h6⟩
  cases x with
  | str i =>
    cases y with
    | str j => cases rx; cases ry; exact .inl ⟨i, j, rfl, rfl, P _ _ _ _ _ _ (Ext.refl _ _) S (.bl _) h⟩
    | _ => exact key h
  | _ => exact key h
section
variable {X : Cx} {W : WX} {k : Nat} {e1 e2 : Expr} {a b : DE} {pos : Pos}
theorem room65 {A : Around} (h : Room k A) : A.units + 65 < cLine := by have := h.un; omega
theorem op_inP (g : Good k X W) : OpR X (compareOp .In) (rInP (CtxOf X) false) := by
  intro pins s σ H x y v u Q I rx ry h
  rcases h with h | ⟨F, ρ, κ, dx, dy, p, q, S, r1, r2, h1, h2, h3, h4, ⟨ds, e⟩, h5⟩
  · exact op_in_str pins s σ H x y v u Q I rx ry h
  · obtain ⟨as, q1, _⟩ := Pd.reads I (Inv.sysm I g.sm) S h1 r1 rx
    obtain ⟨bs, q2, _⟩ := Pd.reads I (Inv.sysm I g.sm) S h2 r2 ry
    rcases e with e | e
    · subst e
      exact SeqAt.in_list_reads q2 q1 (SeqAt.canLay_of_shaped h4) (SeqAt.canLay_of_shaped h3) (room_in_shaped h3 (room65 g.rm)) ⟨.bl _, H, I, rfl, h5⟩
    · subst e
      exact SeqAt.in_tuple_reads q2 q1 (SeqAt.canLay_of_shaped h4) (SeqAt.canLay_of_shaped h3) (room_in_shaped h3 (room65 g.rm)) ⟨.bl _, H, I, rfl, h5⟩
theorem op_notInP (g : Good k X W) : OpR X (compareOp .NotIn) (rInP (CtxOf X) true) := by
  intro pins s σ H x y v u Q I rx ry h
  rcases h with h | ⟨F, ρ, κ, dx, dy, p, q, S, r1, r2, h1, h2, h3, h4, ⟨ds, e⟩, h5⟩
  · exact op_notIn_str pins s σ H x y v u Q I rx ry h
  · obtain ⟨as, q1, _⟩ := Pd.reads I (Inv.sysm I g.sm) S h1 r1 rx
    obtain ⟨bs, q2, _⟩ := Pd.reads I (Inv.sysm I g.sm) S h2 r2 ry
    rcases e with e | e
    · subst e
      exact SeqAt.notIn_list_reads q2 q1 (SeqAt.canLay_of_shaped h4) (SeqAt.canLay_of_shaped h3) (room_in_shaped h3 (room65 g.rm)) ⟨.bl _, H, I, rfl, h5⟩
    · subst e
      exact SeqAt.notIn_tuple_reads q2 q1 (SeqAt.canLay_of_shaped h4) (SeqAt.canLay_of_shaped h3) (room_in_shaped h3 (room65 g.rm)) ⟨.bl _, H, I, rfl, h5⟩
theorem pd_in (g : Good k X W) (ha : PED X W e1 a) (hb : PED X W e2 b) (hm : behindInMarks .In e2 = false := by rfl) : PED X W (.Compare e1 [.In] [e2] pos) (dOp (fIn false) a b) := pd_cmp (op_inP g) sim_in ha hb hm
theorem pd_notIn (g : Good k X W) (ha : PED X W e1 a) (hb : PED X W e2 b) (hm : behindInMarks .NotIn e2 = false := by rfl) : PED X W (.Compare e1 [.NotIn] [e2] pos) (dOp (fIn true) a b) := pd_cmp (op_notInP g) sim_in ha hb hm
theorem pt_in (g : Good k X W) (ha : PED X W e1 a) (hb : PED X W e2 b) (hm : behindInMarks .In e2 = false := by rfl) : PTD X W (.Compare e1 [.In] [e2] pos) (tBl (dOp (fIn false) a b)) := pt_cmpD (op_inP g) sim_in ha hb hm
theorem pt_notIn (g : Good k X W) (ha : PED X W e1 a) (hb : PED X W e2 b) (hm : behindInMarks .NotIn e2 = false := by rfl) : PTD X W (.Compare e1 [.NotIn] [e2] pos) (tBl (dOp (fIn true) a b)) := pt_cmpD (op_notInP g) sim_in ha hb hm
end

/-! ### subscripts -/
def fIx : D2 := fun x y κ Q => match x, y with
  | .str z, .int i => z.length ≤ sizeLine ∧ ∃ c, atI z.cps.toList i = some c ∧ Q (.str ⟨#[c]⟩) κ
  | x, .int i => match view x κ with
    | some (.lst, xs) => ∃ d, atI xs i = some d ∧ Q d κ
    | some (.tup, xs) => ∃ d, atI xs i = some d ∧ Q d κ
    | some (.klst, xs) => ∃ d, atI xs i = some d ∧ Q d κ
    | _ => False
  | _, _ => False
theorem atI_at {C : Ctx} {F : Hp} {ρ : Loc0} {xs : List D} {vs : List V} {i : Int} {d : D} (r : RepL C F ρ xs vs) (h : atI xs i = some d) : ∃ v, atI vs i = some v ∧ Rep C F ρ d v := by
  unfold atI at h ⊢
  rw [← r.length]
  cases e : ixN xs.length i with
  | none => rw [e] at h; cases h
  | some j =>
    rw [e] at h
    exact r.get h
theorem sim_ix {C : Ctx} : Sim2 C fIx (rIx C.K) := by
  intro F ρ κ H x y v u QD Q S rx ry h P
  have hy : ∃ i, y = .int i := by
    cases y <;> first | exact ⟨_, rfl⟩ | (exfalso; cases x <;> exact h)
  obtain ⟨i, rfl⟩ := hy
  cases ry
  have key : (match view x κ with
    | some (.lst, xs) => ∃ d, atI xs i = some d ∧ QD d κ
    | some (.tup, xs) => ∃ d, atI xs i = some d ∧ QD d κ
    | some (.klst, xs) => ∃ d, atI xs i = some d ∧ QD d κ
    | _ => False) → rIx C.K v (.int i) H Q := by
    intro h
    cases ex : view x κ with
    | none => rw [ex] at h; exact h.elim
    | some p =>
      obtain ⟨k, xs⟩ := p
      rw [ex] at h
      obtain ⟨p, vs, rfl, hk, rl⟩ := view_at S rx ex
      cases k <;> first | exact h.elim | skip
      · obtain ⟨d, h1, h2⟩ := h
        obtain ⟨v, h3, h4⟩ := atI_at rl h1
        exact .inl ⟨p, vs, i, v, rfl, rfl, SqL.of hk, h3, P _ _ _ _ _ _ (Ext.refl _ _) S h4 h2⟩
      · obtain ⟨d, h1, h2⟩ := h
        obtain ⟨v, h3, h4⟩ := atI_at rl h1
        exact .inr (.inl ⟨p, vs, i, v, rfl, rfl, hk, h3, P _ _ _ _ _ _ (Ext.refl _ _) S h4 h2⟩)
      · obtain ⟨d, h1, h2⟩ := h
        obtain ⟨v, h3, h4⟩ := atI_at rl h1
        exact .inl ⟨p, vs, i, v, rfl, rfl, hk, h3, P _ _ _ _ _ _ (Ext.refl _ _) S h4 h2⟩
  cases x with
  | str z =>
    cases rx
    obtain ⟨h1, c, h2, h3⟩ := h
    exact .inr (.inr ⟨z, i, c, rfl, rfl, h1, h2, P _ _ _ _ _ _ (Ext.refl _ _) S (.str _) h3⟩)
  | _ => exact key h
section
variable {X : Cx} {W : WX} {k : Nat} {e1 e2 : Expr} {a b : DE} {pos p2 : Pos}
theorem pd_ix (ha : PED X W e1 a) (hb : PED X W e2 b) (hs : PlainIx e2 := by exact fun _ _ => rfl) : PED X W (.Subscript e1 e2 pos) (dOp fIx a b) := pe_weak (pe_ix ix_seq ha hb hs) fun _ _ _ => lift_op sim_ix
end
/-! slices -/
abbrev DO := DEnv → Kap → DX → (Option Int → Kap → Prop) → Prop
def dNo : DO := fun _ κ _ Q => Q none κ
def dPart (a : DE) : DO := fun δ κ X Q => a δ κ X fun x κ1 => ∃ i, x = .int i ∧ Q (some i) κ1
def liftO (C : Ctx) (W : WX) (d : DO) : TO := fun σ H Q => ∃ F ρ κ δ XD QD, StR C F ρ κ H ∧ RepS C F ρ δ σ ∧ d δ κ XD QD ∧ (∀ F' ρ' κ' H' b, Ext F ρ F' ρ' → StR C F' ρ' κ' H' → QD b κ' → Q b H') ∧ PostX C F ρ XD W
theorem po_weak {X : Cx} {e : Option Expr} {t t' : TO} (h : PO X e t) (w : ∀ σ H Q, t' σ H Q → t σ H Q) : PO X e t' := ⟨fun pins s σ H Q I q => h.run pins s σ H Q I (w σ H Q q)⟩
abbrev POD (X : Cx) (W : WX) (e : Option Expr) (d : DO) : Prop := PO X e (liftO (CtxOf X) W d)
theorem po_noD {X : Cx} {W : WX} : POD X W none dNo := po_weak po_none fun σ H Q ⟨F, ρ, κ, δ, XD, QD, S, R, h, P, PX⟩ => P _ _ _ _ _ (Ext.refl _ _) S h
theorem po_partD {X : Cx} {W : WX} {e : Expr} {a : DE} (ha : PED X W e a) : POD X W (some e) (dPart a) := po_weak (po_some ha) fun σ H Q ⟨F, ρ, κ, δ, XD, QD, S, R, h, P, PX⟩ =>
  ⟨F, ρ, κ, δ, XD, _, S, R, h, fun F1 ρ1 κ1 H1 x v e1 S1 R1 ⟨i, hx, h1⟩ => by
    subst hx
    cases R1
    exact ⟨i, rfl, P _ _ _ _ _ e1 S1 h1⟩, PX⟩
def cutD (xs : List D) (lo hi : Option Int) : List D := (xs.drop (HT.sIx xs.length 0 lo)).take (HT.sIx xs.length xs.length hi - HT.sIx xs.length 0 lo)
theorem cut_at {C : Ctx} {F : Hp} {ρ : Loc0} {xs : List D} {vs : List V} (r : RepL C F ρ xs vs) (lo hi : Option Int) : RepL C F ρ (cutD xs lo hi) (cutV vs lo hi) := by
  unfold cutD cutV
  rw [r.length]
  exact (r.drop _).take _
def fSl (m : Bool) (x : D) (lo hi : Option Int) (κ : Kap) (Q : DQ) : Prop := match x with
  | .str z => z.length ≤ sizeLine ∧ Q (.str (cutS z lo hi)) κ
  | x => match view x κ with
    | some (.lst, xs) => fNew m .lst (cutD xs lo hi) κ Q
    | _ => False
def dSl (m : Bool) (a : DE) (lo hi : DO) : DE := fun δ κ X Q => a δ κ X fun x κ1 => lo δ κ1 X fun i κ2 => hi δ κ2 X fun j κ3 => fSl m x i j κ3 Q
theorem pd_sl {X : Cx} {W : WX} {e1 : Expr} {lo hi : Option Expr} {a : DE} {dl dh : DO} {pos p2 : Pos} (m : Bool) (ha : PED X W e1 a) (hl : POD X W lo dl) (hh : POD X W hi dh) : PED X W (.Subscript e1 (.Slice lo hi none p2) pos) (dSl m a dl dh) :=
  pe_weak (pe_slice (SlR.or sl_str sl_list) ha hl hh) fun σ H Q ⟨F, ρ, κ, δ, XD, QD, S, R, h, P, PX⟩ =>
  ⟨F, ρ, κ, δ, XD, _, S, R, h, fun F1 ρ1 κ1 H1 x v e1 S1 R1 h1 => ⟨F1, ρ1, κ1, δ, XD, _, S1, R.ext e1, h1, fun F2 ρ2 κ2 H2 i e2 S2 h2 => ⟨F2, ρ2, κ2, δ, XD, _, S2, R.ext (e1.trans e2), h2, fun F3 ρ3 κ3 H3 j e3 S3 h3 => by
    have e123 := e1.trans (e2.trans e3)
    have R3 := R1.ext (e2.trans e3)
    have key : (match view x κ3 with
      | some (.lst, xs) => fNew m .lst (cutD xs i j) κ3 QD
      | _ => False) → rSlS v i j H3 Q ∨ rSlL X.K v i j H3 Q := fun h => by
      cases ex : view x κ3 with
      | none => rw [ex] at h; exact h.elim
      | some p =>
        obtain ⟨k, xs⟩ := p
        rw [ex] at h
        obtain ⟨p, vs, rfl, hk, rl⟩ := view_at S3 R3 ex
        cases k <;> first | exact h.elim | skip
        exact .inr ⟨p, vs, rfl, SqL.of hk, new_lst S3 (cut_at rl i j) h (P.ext e123)⟩
    cases x with
    | str z =>
      cases R3
      exact .inl ⟨z, rfl, h3.1, P _ _ _ _ _ _ e123 S3 (.str _) h3.2⟩
    | _ => exact key h3, PX.ext (e1.trans e2)⟩, PX.ext e1⟩, PX⟩

/-! ### built-ins -/
def fLen : DN := fun xs κ Q => match xs with
  | [.str y] => y.length ≤ sizeLine ∧ Q (.int (y.length : Nat)) κ
  | [x] => match view x κ with
    | some (.lst, xs) => Q (.int (xs.length : Nat)) κ
    | some (.tup, xs) => Q (.int (xs.length : Nat)) κ
    | some (.klst, xs) => Q (.int (xs.length : Nat)) κ
    | _ => False
  | _ => False
theorem repL1 {C : Ctx} {F : Hp} {ρ : Loc0} {x : D} {vs : List V} (r : RepL C F ρ [x] vs) : ∃ v, vs = [v] ∧ Rep C F ρ x v := by
  cases r with
  | cons h t => cases t; exact ⟨_, rfl, h⟩
theorem repL2 {C : Ctx} {F : Hp} {ρ : Loc0} {x y : D} {vs : List V} (r : RepL C F ρ [x, y] vs) : ∃ v u, vs = [v, u] ∧ Rep C F ρ x v ∧ Rep C F ρ y u := by
  cases r with
  | cons h t =>
    obtain ⟨u, rfl, hu⟩ := repL1 t
    exact ⟨_, _, rfl, h, hu⟩
theorem sim_len {C : Ctx} : SimN C fLen (fun xs H Q => ∃ x n, xs = [x] ∧ LenV C.K x H n ∧ Q (.int n) H) := by
  intro F ρ κ H xs vs QD Q S r h P
  match xs, h with
  | [x], h =>
    obtain ⟨v, rfl, rx⟩ := repL1 r
    have key : (match view x κ with
      | some (.lst, xs) => QD (.int (xs.length : Nat)) κ
      | some (.tup, xs) => QD (.int (xs.length : Nat)) κ
      | some (.klst, xs) => QD (.int (xs.length : Nat)) κ
      | _ => False) → ∃ x n, [v] = [x] ∧ LenV C.K x H n ∧ Q (.int n) H := by
      intro h
      cases ex : view x κ with
      | none => rw [ex] at h; exact h.elim
      | some p =>
        obtain ⟨k, xs⟩ := p
        rw [ex] at h
        obtain ⟨p, vs, rfl, hk, rl⟩ := view_at S rx ex
        have l := rl.length
        cases k <;> first | exact h.elim | skip
        · exact ⟨_, _, rfl, .inl ⟨vs, SqL.of hk, rfl⟩, P _ _ _ _ _ _ (Ext.refl _ _) S (.int _) (by rw [← l]; exact h)⟩
        · exact ⟨_, _, rfl, .inr ⟨vs, hk, rfl⟩, P _ _ _ _ _ _ (Ext.refl _ _) S (.int _) (by rw [← l]; exact h)⟩
        · exact ⟨_, _, rfl, .inl ⟨vs, hk, rfl⟩, P _ _ _ _ _ _ (Ext.refl _ _) S (.int _) (by rw [← l]; exact h)⟩
    cases x with
    | str y => cases rx; exact ⟨_, _, rfl, ⟨h.1, rfl⟩, P _ _ _ _ _ _ (Ext.refl _ _) S (.int _) h.2⟩
    | _ => exact key h
  | x :: y :: r, h => exfalso; cases x <;> exact h
def fAbs : DN := fun xs κ Q => match xs with
  | [.int i] => Q (.int (if i < 0 then -i else i)) κ
  | _ => False
theorem sim_abs {C : Ctx} : SimN C fAbs (fun xs H Q => ∃ i, xs = [.int i] ∧ Q (.int (if i < 0 then -i else i)) H) := by
  intro F ρ κ H xs vs QD Q S r h P
  match xs, h with
  | [.int i], h =>
    obtain ⟨v, rfl, rx⟩ := repL1 r
    cases rx
    exact ⟨i, rfl, P _ _ _ _ _ _ (Ext.refl _ _) S (.int _) h⟩
def fMax2 : DN := fun xs κ Q => match xs with
  | [.int i, .int j] => Q (.int (if j > i then j else i)) κ
  | _ => False
def fMin2 : DN := fun xs κ Q => match xs with
  | [.int i, .int j] => Q (.int (if j < i then j else i)) κ
  | _ => False
theorem sim_max2 {C : Ctx} : SimN C fMax2 (fun xs H Q => ∃ i j, xs = [.int i, .int j] ∧ Q (.int (if j > i then j else i)) H) := by
  intro F ρ κ H xs vs QD Q S r h P
  match xs, h with
  | [.int i, .int j], h =>
    obtain ⟨v, u, rfl, rx, ry⟩ := repL2 r
    cases rx; cases ry
    exact ⟨i, j, rfl, P _ _ _ _ _ _ (Ext.refl _ _) S (.int _) h⟩
theorem sim_min2 {C : Ctx} : SimN C fMin2 (fun xs H Q => ∃ i j, xs = [.int i, .int j] ∧ Q (.int (if j < i then j else i)) H) := by
  intro F ρ κ H xs vs QD Q S r h P
  match xs, h with
  | [.int i, .int j], h =>
    obtain ⟨v, u, rfl, rx, ry⟩ := repL2 r
    cases rx; cases ry
    exact ⟨i, j, rfl, P _ _ _ _ _ _ (Ext.refl _ _) S (.int _) h⟩
/-- str(x): of a number, of a text -/
def fStr : DN := fun xs κ Q => match xs with
  | [.int i] => i.natAbs.log2 < 1920 ∧ Q (.str (toString i)) κ
  | [.str y] => Q (.str y) κ
  | _ => False
theorem sim_str {C : Ctx} : SimN C fStr (fun xs H Q => (∃ i, xs = [.int i] ∧ i.natAbs.log2 < 1920 ∧ Q (.str (toString i)) H) ∨ ∃ a, xs = [.str a] ∧ Q (.str a) H) := by
  intro F ρ κ H xs vs QD Q S r h P
  match xs, h with
  | [.int i], h =>
    obtain ⟨v, rfl, rx⟩ := repL1 r
    cases rx
    exact .inl ⟨i, rfl, h.1, P _ _ _ _ _ _ (Ext.refl _ _) S (.str _) h.2⟩
  | [.str i], h =>
    obtain ⟨v, rfl, rx⟩ := repL1 r
    cases rx
    exact .inr ⟨i, rfl, P _ _ _ _ _ _ (Ext.refl _ _) S (.str _) h⟩
/-- int(x): of a number, of a truth -/
def fInt : DN := fun xs κ Q => match xs with
  | [.int i] => Q (.int i) κ
  | [.bl b] => Q (.int (if b then 1 else 0)) κ
  | _ => False
theorem sim_int {C : Ctx} : SimN C fInt (fun xs H Q => (∃ i, xs = [.int i] ∧ Q (.int i) H) ∨ ∃ k, xs = [.bl k] ∧ Q (.int (if k then 1 else 0)) H) := by
  intro F ρ κ H xs vs QD Q S r h P
  match xs, h with
  | [.int i], h =>
    obtain ⟨v, rfl, rx⟩ := repL1 r
    cases rx
    exact .inl ⟨i, rfl, P _ _ _ _ _ _ (Ext.refl _ _) S (.int _) h⟩
  | [.bl i], h =>
    obtain ⟨v, rfl, rx⟩ := repL1 r
    cases rx
    exact .inr ⟨i, rfl, P _ _ _ _ _ _ (Ext.refl _ _) S (.int _) h⟩
/-- all, any of a list of truths -/
def fAllB : DN := fun xs κ Q => match xs with
  | [x] => ∃ bs : List Bool, view x κ = some (.lst, bs.map D.bl) ∧ Q (.bl (bs.all id)) κ
  | _ => False
def fAnyB : DN := fun xs κ Q => match xs with
  | [x] => ∃ bs : List Bool, view x κ = some (.lst, bs.map D.bl) ∧ Q (.bl (bs.any id)) κ
  | _ => False
theorem sim_all {C : Ctx} : SimN C fAllB (rAll C.K) := by
  intro F ρ κ H xs vs QD Q S r h P
  match xs, h with
  | [x], ⟨bs, ex, h⟩ =>
    obtain ⟨v, rfl, rx⟩ := repL1 r
    obtain ⟨p, vs, rfl, hk, rl⟩ := view_at S rx ex
    have e := rl.bls
    subst e
    exact ⟨p, bs, rfl, SqL.of hk, P _ _ _ _ _ _ (Ext.refl _ _) S (.bl _) h⟩
theorem sim_any {C : Ctx} : SimN C fAnyB (rAny C.K) := by
  intro F ρ κ H xs vs QD Q S r h P
  match xs, h with
  | [x], ⟨bs, ex, h⟩ =>
    obtain ⟨v, rfl, rx⟩ := repL1 r
    obtain ⟨p, vs, rfl, hk, rl⟩ := view_at S rx ex
    have e := rl.bls
    subst e
    exact ⟨p, bs, rfl, SqL.of hk, P _ _ _ _ _ _ (Ext.refl _ _) S (.bl _) h⟩
/-- repr of data -/
def fRepr : DN := fun xs κ Q => match xs with
  | [x] => ∃ p, Pd κ x p ∧ p.showable = true ∧ p.depth ≤ 60 ∧ p.shown.length ≤ sizeLine ∧ Q (.str p.shown) κ
  | _ => False
def rRepr (C : Ctx) : List V → Hp → VK → Prop := fun vs H Q => ∃ F ρ κ x v p, vs = [v] ∧ StR C F ρ κ H ∧ Rep C F ρ x v ∧ Pd κ x p ∧ p.showable = true ∧ p.depth ≤ 60 ∧ p.shown.length ≤ sizeLine ∧ Q (.str p.shown) H
theorem sim_repr {C : Ctx} : SimN C fRepr (rRepr C) := by
  intro F ρ κ H xs vs QD Q S r h P
  match xs, h with
  | [x], ⟨p, h1, h2, h3, h4, h5⟩ =>
    obtain ⟨v, rfl, rx⟩ := repL1 r
    exact ⟨F, ρ, κ, x, v, p, rfl, S, rx, h1, h2, h3, h4, P _ _ _ _ _ _ (Ext.refl _ _) S (.str _) h5⟩
section
variable {X : Cx} {W : WX} {k : Nat} {e : Expr} {es : List Expr} {a b : DE} {as : DA} {pos p : Pos}
theorem call_reprD (g : Good k X W) : CallR X (.builtin "repr") (rRepr (CtxOf X)) := by
  intro pins s σ H xs us Q I r ⟨F, ρ, κ, x, v, p, e, S, rx, h1, h2, h3, h4, h5⟩
  subst e
  obtain ⟨u, rfl, rv⟩ := vals1 r
  have hu : X.A.units + (p.depth + 1) < cLine := by have := g.rm.units; omega
  obtain ⟨as, hr, hn⟩ := Pd.reads I (Inv.sysm I g.sm) S h1 rx rv
  cases hr with
  | none => exact PySem.P.repr_of_none ⟨.str _, H, I.tok _, ⟨_, rfl⟩, h5⟩
  | bool b => exact PySem.P.repr_of_bool ⟨.str _, H, I.tok _, ⟨_, rfl⟩, h5⟩
  | int i t => exact PySem.P.repr_of_int (of_decide_eq_true h2) ⟨.str _, H, I.tok _, ⟨_, rfl⟩, h5⟩
  | str x t => exact PySem.P.repr_of_str ⟨.str _, H, I.tok _, ⟨_, rfl⟩, h5⟩ h4
  | list q1 q2 q3 q4 => exact repr_of_reads' (.list q1 q2 q3 q4) h2 (fun _ => hn) g.gd hu (fun _ _ e => e) (fun h' u tk hk => ⟨.str _, H, I.kept hk, ⟨_, rfl⟩, h5⟩) h4
  | tuple q1 q2 q3 q4 => exact repr_of_reads' (.tuple q1 q2 q3 q4) h2 (fun _ => hn) g.gd hu (fun _ _ e => e) (fun h' u tk hk => ⟨.str _, H, I.kept hk, ⟨_, rfl⟩, h5⟩) h4
  | dict q1 q2 q3 q4 q5 => exact repr_of_reads' (.dict q1 q2 q3 q4 q5) h2 (fun _ => hn) g.gd hu (fun _ _ e => e) (fun h' u tk hk => ⟨.str _, H, I.kept hk, ⟨_, rfl⟩, h5⟩) h4
end
end DL

/-! DL: statements, loops, comprehensions. -/
namespace DL
open PySem PySem.Spec PyProof.Rows L2

/-! ### targets -/
abbrev DG := D → DEnv → Kap → DX → (DEnv → Kap → Prop) → Prop
abbrev DGs := List D → DEnv → Kap → DX → (DEnv → Kap → Prop) → Prop
def liftG (C : Ctx) (W : WX) (g : DG) : TG := fun v σ H Q => ∃ F ρ κ δ d XD QD, StR C F ρ κ H ∧ RepS C F ρ δ σ ∧ Rep C F ρ d v ∧ g d δ κ XD QD ∧ PostN C F ρ QD Q ∧ PostX C F ρ XD W
def liftGs (C : Ctx) (W : WX) (g : DGs) : TGs := fun vs σ H Q => ∃ F ρ κ δ ds XD QD, StR C F ρ κ H ∧ RepS C F ρ δ σ ∧ RepL C F ρ ds vs ∧ g ds δ κ XD QD ∧ PostN C F ρ QD Q ∧ PostX C F ρ XD W
abbrev PGD (X : Cx) (W : WX) (e : Expr) (g : DG) : Prop := PG X e (liftG (CtxOf X) W g)
abbrev PGsD (X : Cx) (W : WX) (es : List Expr) (g : DGs) : Prop := PGs X es (liftGs (CtxOf X) W g)
def gN (i : Nat) : DG := fun d δ κ _ Q => Q (δ.set i (some d)) κ
def gNilD : DGs := fun ds δ κ _ Q => ds = [] ∧ Q δ κ
def gConsD (g : DG) (r : DGs) : DGs := fun ds δ κ X Q => match ds with
  | d :: ds => g d δ κ X fun δ1 κ1 => r ds δ1 κ1 X Q
  | [] => False
def gTupD (n : Nat) (g : DGs) : DG := fun d δ κ X Q => ∃ xs, view d κ = some (.tup, xs) ∧ xs.length = n ∧ g xs δ κ X Q
section
variable {X : Cx} {W : WX} {e : Expr} {es : List Expr} {g : DG} {r : DGs} {pos : Pos}
theorem pg_weak {t t' : TG} (h : PG X e t) (w : ∀ v σ H Q, t' v σ H Q → t v σ H Q) : PG X e t' := ⟨fun pins s σ H x u Q I rx q => h.run pins s σ H x u Q I rx (w _ _ _ _ q)⟩
theorem pgs_weak {t t' : TGs} (h : PGs X es t) (w : ∀ v σ H Q, t' v σ H Q → t v σ H Q) : PGs X es t' := ⟨fun pins s σ H x u Q I rx q => h.run pins s σ H x u Q I rx (w _ _ _ _ q)⟩
theorem pg_nameD {i : Nat} {x : Str} (hN : X.N.Nodup) (hi : X.N[i]? = some x := by rfl) (hx : L2.Loc X.env.scope x := by first | exact Or.inl rfl | exact Or.inr rfl) (hf : X.fn x = true ∨ X.env.scope.names.lookup x = some .local := by first | exact .inl rfl | exact .inr rfl | assumption) : PGD X W (.Name x pos) (gN i) :=
  pg_weak (pg_name hN hi hx hf) fun v σ H Q ⟨F, ρ, κ, δ, d, XD, QD, S, R, r, h, P, PX⟩ => P _ _ _ _ _ _ (Ext.refl _ _) S (R.set r i) h
theorem pgs_nilD : PGsD X W [] gNilD := pgs_weak pgs_nil fun v σ H Q ⟨F, ρ, κ, δ, d, XD, QD, S, R, r, h, P, PX⟩ => by
  obtain ⟨rfl, h⟩ := h
  cases r
  exact ⟨rfl, P _ _ _ _ _ _ (Ext.refl _ _) S R h⟩
theorem pgs_consD (h1 : PGD X W e g) (h2 : PGsD X W es r) (hs : (assignEach (e :: es) X.env).map (·.2) = assign e X.env :: (assignEach es X.env).map (·.2) := by rfl) : PGsD X W (e :: es) (gConsD g r) := pgs_weak (pgs_cons h1 h2 hs) fun v σ H Q ⟨F, ρ, κ, δ, ds, XD, QD, S, R, rr, h, P, PX⟩ => by
  cases rr with
  | nil => exact h.elim
  | cons r1 r2 => exact ⟨_, _, rfl, F, ρ, κ, δ, _, XD, _, S, R, r1, h, fun F1 ρ1 κ1 H1 δ1 σ1 e1 S1 R1 h1 => ⟨F1, ρ1, κ1, δ1, _, XD, _, S1, R1, r2.ext e1, h1, P.ext e1, PX.ext e1⟩, PX⟩
theorem pg_tupD {n : Nat} {kk : Nat} (hc : X.calm = true) (h : PGsD X W es r) (hn : (assignEach es X.env).length = n := by rfl) (hst : (assignEach es X.env).findIdx? (·.1) = none := by rfl) : PGD X W (.Tuple es kk pos) (gTupD n r) :=
  pg_weak (pg_tup (k := kk) hc h hn hst) fun v σ H Q ⟨F, ρ, κ, δ, d, XD, QD, S, R, rr, ⟨xs, h1, h2, h3⟩, P, PX⟩ => by
  obtain ⟨a, vs, rfl, hk, rl⟩ := view_at S rr h1
  exact ⟨a, vs, rfl, hk, by rw [← rl.length]; exact h2, F, ρ, κ, δ, xs, XD, _, S, R, rl, h3, P, PX⟩
end
/-! o[i] = e : a cell's list | dict -/
def putAt (ks : List Key) (xs : List D) (k : Key) (d : D) : List Key × List D :=
  match ks.findIdx? (fun q => decide (q = k)) with
  | some j => (ks, xs.set j d)
  | none => (ks ++ [k], xs ++ [d])
def fSet : D → D → D → Kap → (Kap → Prop) → Prop := fun o i d κ Q => match o, i with
  | .cell n, .int j => match κ n with
    | some (.live .lst xs) => ∃ m, ixN xs.length j = some m ∧ Q (kset κ n (.live .lst (xs.set m d)))
    | _ => False
  | _, _ => False
def gSubD (o i : DE) (f : D → D → D → Kap → (Kap → Prop) → Prop) : DG := fun d δ κ X Q => o δ κ X fun x κ1 => i δ κ1 X fun y κ2 => f x y d κ2 fun κ3 => Q δ κ3
section
variable {X : Cx} {W : WX} {e1 e2 : Expr} {a b : DE} {pos : Pos}
theorem pg_subD (ho : PED X W e1 a) (hi : PED X W e2 b)
    (ha : ∀ v, assign (.Subscript e1 e2 pos) X.env v = (do
      let ov ← holding [v] (eval e1 X.env)
      let iv ← holding [v, ov] (eval e2 X.env)
      standAt pos
      holding [v, ov, iv] (setItem ov iv v)
      release [v, ov, iv] []) := by intro _; rfl) : PGD X W (.Subscript e1 e2 pos) (gSubD a b fSet) :=
  pg_weak (pg_sub ho hi set_list ha) fun v σ H Q ⟨F, ρ, κ, δ, d, XD, QD, S, R, rr, h, P, PX⟩ =>
  ⟨F, ρ, κ, δ, XD, _, S, R, h, fun F1 ρ1 κ1 H1 x u e1 S1 R1 h1 => ⟨F1, ρ1, κ1, δ, XD, _, S1, R.ext e1, h1, fun F2 ρ2 κ2 H2 y w e2 S2 R2 h2 => by
    have e12 := e1.trans e2
    have R1' := R1.ext e2
    cases x <;> first | (exfalso; cases y <;> exact h2) | skip
    rename_i n
    cases y <;> first | (exfalso; exact h2) | skip
    rename_i j
    cases R2
    have h2' : (match κ2 n with
      | some (.live .lst xs) => ∃ m, ixN xs.length j = some m ∧ QD δ (kset κ2 n (.live .lst (xs.set m d)))
      | _ => False) := h2
    cases ek : κ2 n with
    | none => rw [ek] at h2'; exact h2'.elim
    | some c =>
      cases c with
      | dead => rw [ek] at h2'; exact h2'.elim
      | live k xs =>
        rw [ek] at h2'
        cases k <;> first | exact h2'.elim | skip
        obtain ⟨m, h3, h4⟩ := h2'
        obtain ⟨p, vs, rfl, hr, hm, rl⟩ := cell_at S2 R1' ek
        refine ⟨p, vs, j, m, rfl, rfl, hm, by rw [← rl.length]; exact h3, ?_⟩
        exact P _ _ _ _ _ _ e12 (S2.write (k' := .lst) ek hr (fun H' q => q) (RepL.set (rr.ext e12) m rl)) (R.ext e12) h4, PX.ext e1⟩, PX⟩
end

/-! ### statements -/
def sSeq (a b : DS) : DS := fun δ κ X T => a δ κ X { T with nx := fun δ1 κ1 => b δ1 κ1 X T }
def sNil : DS := fun δ κ _ T => T.nx δ κ
def sAsg (e : DE) (g : DG) : DS := fun δ κ X T => e δ κ X fun d κ1 => g d δ κ1 X T.nx
def sExp (e : DE) : DS := fun δ κ X T => e δ κ X fun _ κ1 => T.nx δ κ1
def sRet (e : DE) : DS := fun δ κ X T => e δ κ X T.rt
def sRetN : DS := fun _ κ _ T => T.rt .non κ
def sIf (t : DT) (a b : DS) : DS := fun δ κ X T => t δ κ X fun k κ1 => if k = true then a δ κ1 X T else b δ κ1 X T
def sBrk : DS := fun δ κ _ T => T.bk δ κ
def sCon : DS := fun δ κ _ T => T.ct δ κ
def sNever : DS := fun _ _ _ _ => False
def sPar (i j : Nat) (as : DA) : DS := fun δ κ X T => as δ κ X fun ds κ1 => ∃ x y, ds = [x, y] ∧ T.nx ((δ.set i (some x)).set j (some y)) κ1
def sAug (i : Nat) (f : D2) (e : DE) : DS := fun δ κ X T => ∃ x, δ[i]? = some (some x) ∧ e δ κ X fun y κ1 => f x y κ1 fun z κ2 => T.nx (δ.set i (some z)) κ2
def sWhile (t : DT) (b : DS) : DS := fun δ κ X T => ∃ I : Nat → DEnv → Kap → Prop, (∃ m, I m δ κ) ∧ ∀ m δ κ, I m δ κ → t δ κ X fun k κ1 => if k = true then
    b δ κ1 X { nx := fun δ2 κ2 => ∃ m', m' < m ∧ I m' δ2 κ2, ct := fun δ2 κ2 => ∃ m', m' < m ∧ I m' δ2 κ2, bk := T.nx, rt := T.rt } else T.nx δ κ1
section
variable {X : Cx} {W : WX} {e e1 e2 e3 : Expr} {st : Stmt} {sts sts2 : List Stmt} {a b : DE} {as : DA} {t : DT} {u v : DS} {g : DG} {pos : Pos}
theorem sd_nil : PSsD X W [] sNil := pss_weak pss_nil fun T σ H ⟨F, ρ, κ, δ, XD, DD, S, R, h, P, PX⟩ => P.nx _ _ _ _ _ _ (Ext.refl _ _) S R h
theorem sd_cons (h1 : PSD X W st u) (h2 : PSsD X W sts v) : PSsD X W (st :: sts) (sSeq u v) := pss_weak (pss_cons h1 h2) fun T σ H ⟨F, ρ, κ, δ, XD, DD, S, R, h, P, PX⟩ =>
  ⟨F, ρ, κ, δ, XD, _, S, R, h, ⟨fun F1 ρ1 κ1 H1 δ1 σ1 e1 S1 R1 h1 => ⟨F1, ρ1, κ1, δ1, XD, DD, S1, R1, h1, P.ext e1, PX.ext e1⟩, P.rt, P.bk, P.ct⟩, PX⟩
theorem sd_one (h1 : PSD X W st u) : PSsD X W [st] u := pss_one h1
theorem sd_never {st : Stmt} : PSD X W st sNever := ps_weak ps_never fun T σ H ⟨F, ρ, κ, δ, XD, DD, S, R, h, P, PX⟩ => h.elim
theorem sd_pass : PSD X W (.Pass pos) sNil := ps_weak ps_pass fun T σ H ⟨F, ρ, κ, δ, XD, DD, S, R, h, P, PX⟩ => P.nx _ _ _ _ _ _ (Ext.refl _ _) S R h
theorem sd_doc {x j p} : PSD X W (.Expr (.Constant (.str x) j p) pos) sNil := ps_weak ps_doc fun T σ H ⟨F, ρ, κ, δ, XD, DD, S, R, h, P, PX⟩ => P.nx _ _ _ _ _ _ (Ext.refl _ _) S R h
theorem sd_brk : PSD X W (.Break pos) sBrk := ps_weak ps_break fun T σ H ⟨F, ρ, κ, δ, XD, DD, S, R, h, P, PX⟩ => P.bk _ _ _ _ _ _ (Ext.refl _ _) S R h
theorem sd_con : PSD X W (.Continue pos) sCon := ps_weak ps_continue fun T σ H ⟨F, ρ, κ, δ, XD, DD, S, R, h, P, PX⟩ => P.ct _ _ _ _ _ _ (Ext.refl _ _) S R h
theorem sd_exp (ha : PED X W e a) (hs : swapsWith e none pos.line X.env = pure false := by rfl) : PSD X W (.Expr e pos) (sExp a) := ps_weak (ps_expr ha hs) fun T σ H ⟨F, ρ, κ, δ, XD, DD, S, R, h, P, PX⟩ =>
  ⟨F, ρ, κ, δ, XD, _, S, R, h, fun F1 ρ1 κ1 H1 x v e1 S1 R1 h1 => P.nx _ _ _ _ _ _ e1 S1 (R.ext e1) h1, PX⟩
theorem sd_ret (ha : PED X W e a) : PSD X W (.Return (some e) pos) (sRet a) := ps_weak (ps_ret ha) fun T σ H ⟨F, ρ, κ, δ, XD, DD, S, R, h, P, PX⟩ => ⟨F, ρ, κ, δ, XD, _, S, R, h, P.rt, PX⟩
theorem sd_retN : PSD X W (.Return none pos) sRetN := ps_weak ps_retN fun T σ H ⟨F, ρ, κ, δ, XD, DD, S, R, h, P, PX⟩ => P.rt _ _ _ _ _ _ (Ext.refl _ _) S .non h
theorem sd_if (ht : PTD X W e t) (h1 : PSsD X W sts u) (h2 : PSsD X W sts2 v) : PSD X W (.If e sts sts2 pos) (sIf t u v) := ps_weak (ps_if ht h1 h2) fun T σ H ⟨F, ρ, κ, δ, XD, DD, S, R, h, P, PX⟩ =>
  ⟨F, ρ, κ, δ, XD, _, S, R, h, fun F1 ρ1 κ1 H1 k e1 S1 h1 => by
    cases k with
    | true => exact ⟨F1, ρ1, κ1, δ, XD, DD, S1, R.ext e1, h1, P.ext e1, PX.ext e1⟩
    | false => exact ⟨F1, ρ1, κ1, δ, XD, DD, S1, R.ext e1, h1, P.ext e1, PX.ext e1⟩, PX⟩
theorem sd_asg {tg : Expr} (ha : PED X W e a) (hg : PGD X W tg g) (hs : swapsWithSole [tg] e pos.line X.env = pure false := by rfl) (hw : swappedStores [tg] e X.env = pure none := by rfl)
    (h1 : (assignEach [tg] X.env).map (·.2) = [assign tg X.env] := by rfl) : PSD X W (.Assign [tg] e pos) (sAsg a g) := ps_weak (ps_asg ha hg hs hw h1) fun T σ H ⟨F, ρ, κ, δ, XD, DD, S, R, h, P, PX⟩ =>
  ⟨F, ρ, κ, δ, XD, _, S, R, h, fun F1 ρ1 κ1 H1 x v e1 S1 R1 h1 => ⟨F1, ρ1, κ1, δ, x, XD, _, S1, R.ext e1, R1, h1, P.nx.ext e1, PX.ext e1⟩, PX⟩
theorem sd_set (i : Nat) {x : Str} {pos' : Pos} (hN : X.N.Nodup) (ha : PED X W e a) (hi : X.N[i]? = some x := by rfl) (hx : L2.Loc X.env.scope x := by first | exact Or.inl rfl | exact Or.inr rfl) (hs : swapsWith e (some (.Name x pos')) pos.line X.env = pure false := by rfl)
    (hf : X.fn x = true ∨ X.env.scope.names.lookup x = some .local := by first | exact .inl rfl | exact .inr rfl | assumption) : PSD X W (.Assign [.Name x pos'] e pos) (sAsg a (gN i)) := ps_weak (ps_set hN hi hx ha hs hf) fun T σ H ⟨F, ρ, κ, δ, XD, DD, S, R, h, P, PX⟩ =>
  ⟨F, ρ, κ, δ, XD, _, S, R, h, fun F1 ρ1 κ1 H1 x v e1 S1 R1 h1 => P.nx _ _ _ _ _ _ e1 S1 ((R.ext e1).set R1 i) h1, PX⟩
theorem sd_par (i j : Nat) (hp : ∀ ta, PA X [e1, e2] ta → PS X st (tPar i j ta)) (ha : PAD X W [e1, e2] as) : PSD X W st (sPar i j as) := ps_weak (hp _ ha) fun T σ H ⟨F, ρ, κ, δ, XD, DD, S, R, h, P, PX⟩ =>
  ⟨F, ρ, κ, δ, XD, _, S, R, h, fun F1 ρ1 κ1 H1 ds vs e1 S1 R1 ⟨x, y, h0, h1⟩ => by
    subst h0
    obtain ⟨v, u, rfl, rx, ry⟩ := repL2 R1
    exact ⟨v, u, rfl, P.nx _ _ _ _ _ _ e1 S1 (((R.ext e1).set rx i).set ry j) h1⟩, PX⟩
theorem sd_while {k : Nat} (G : Good k X W) (ht : PTD X W e t) (hb : PSsD X W sts u) : PSD X W (.While e sts [] pos) (sWhile t u) := ps_weak (ps_while G.po ht hb) fun T σ H ⟨F, ρ, κ, δ, XD, DD, S, R, ⟨I, ⟨m0, h0⟩, h⟩, P, PX⟩ => by
  refine ⟨fun m σ H => ∃ F1 ρ1 κ1 δ1, Ext F ρ F1 ρ1 ∧ StR (CtxOf X) F1 ρ1 κ1 H ∧ RepS (CtxOf X) F1 ρ1 δ1 σ ∧ I m δ1 κ1, ⟨m0, F, ρ, κ, δ, Ext.refl _ _, S, R, h0⟩, ?_⟩
  rintro m σ H ⟨F1, ρ1, κ1, δ1, e1, S1, R1, h1⟩
  refine ⟨F1, ρ1, κ1, δ1, XD, _, S1, R1, h m δ1 κ1 h1, fun F2 ρ2 κ2 H2 k e2 S2 h2 => ?_, PX.ext e1⟩
  have e12 := e1.trans e2
  cases k with
  | true =>
    have again : PostN (CtxOf X) F2 ρ2 (fun δ2 κ2 => ∃ m', m' < m ∧ I m' δ2 κ2) (fun σ' H' => ∃ m', m' < m ∧ ∃ F1 ρ1 κ1 δ1, Ext F ρ F1 ρ1 ∧ StR (CtxOf X) F1 ρ1 κ1 H' ∧ RepS (CtxOf X) F1 ρ1 δ1 σ' ∧ I m' δ1 κ1) :=
      fun F3 ρ3 κ3 H3 δ3 σ3 e3 S3 R3 ⟨m', hm, h3⟩ => ⟨m', hm, F3, ρ3, κ3, δ3, e12.trans e3, S3, R3, h3⟩
    exact ⟨_, fun _ _ h => h, F2, ρ2, κ2, δ1, XD, _, S2, R1.ext e2, h2, ⟨again, P.rt.ext e12, P.nx.ext e12, again⟩, PX.ext e12⟩
  | false => exact P.nx _ _ _ _ _ _ e12 S2 (R1.ext e2) h2
end

/-! ### what is walked -/
/-- an iterator J of the hand layer goes through the data items while g holds of the cells -/
def ItOk (C : Ctx) (F : Hp) (ρ : Loc0) (J : It) (items : List D) (g : Kap → Prop) : Prop := ∀ F' ρ' κ' H' (i : Nat), Ext F ρ F' ρ' → StR C F' ρ' κ' H' → g κ' →
  (i = items.length → J.stop i H') ∧ ∀ d, items[i]? = some d → J.go i H' ∧ ∀ x H2, J.yld i H' x H2 → ∃ F2, Ext F' ρ' F2 ρ' ∧ StR C F2 ρ' κ' H2 ∧ Rep C F2 ρ' d x
abbrev DI := DEnv → Kap → DX → (List D → (Kap → Prop) → Kap → Prop) → Prop
def liftI (C : Ctx) (W : WX) (di : DI) : TI := fun σ H R => ∃ F ρ κ δ XD QD, StR C F ρ κ H ∧ RepS C F ρ δ σ ∧ di δ κ XD QD ∧
  (∀ F' ρ' κ' H' J items g, Ext F ρ F' ρ' → StR C F' ρ' κ' H' → ItOk C F' ρ' J items g → QD items g κ' → R J H') ∧ PostX C F ρ XD W
abbrev PID (X : Cx) (W : WX) (tg e : Expr) (di : DI) : Prop := PI X tg e (liftI (CtxOf X) W di)
theorem pi_weak {X : Cx} {tg e : Expr} {t t' : TI} (h : PI X tg e t) (w : ∀ σ H Q, t' σ H Q → t σ H Q) : PI X tg e t' := ⟨fun pins s σ H Q I q => h.run pins s σ H Q I (w σ H Q q)⟩
theorem pi_or {X : Cx} {tg e : Expr} {t t' : TI} (h : PI X tg e t) (h' : PI X tg e t') : PI X tg e (fun σ H Q => t σ H Q ∨ t' σ H Q) := ⟨fun pins s σ H Q I q => by
  rcases q with q | q
  · exact h.run pins s σ H Q I q
  · exact h'.run pins s σ H Q I q⟩
def gTrue : Kap → Prop := fun _ => True
/-- a list, a tuple, a text, a cell's list (that stays as it is) -/
def charsD (x : Str) : List D := x.cps.toList.map fun c => .str ⟨#[c]⟩
def iSeq (a : DE) : DI := fun δ κ X Q => a δ κ X fun d κ1 => match d with
  | .str x => Q (charsD x) gTrue κ1
  | .cell n => match κ1 n with
    | some (.live .lst xs) => Q xs (fun κ => κ n = some (.live .lst xs)) κ1
    | _ => False
  | d => match view d κ1 with
    | some (.lst, xs) => Q xs gTrue κ1
    | some (.klst, xs) => Q xs gTrue κ1
    | some (.tup, xs) => Q xs gTrue κ1
    | _ => False
theorem itOk_l {C : Ctx} {F : Hp} {ρ : Loc0} {k : PySem.W.Frag} {a : Addr} {vs : List V} {xs : List D} {g : Kap → Prop} (hk : ∀ F' ρ' κ' H', Ext F ρ F' ρ' → StR C F' ρ' κ' H' → g κ' → SqL C.K H' a vs) (hu : ∀ F' ρ' κ' H' ws, Ext F ρ F' ρ' → StR C F' ρ' κ' H' → g κ' → SqL C.K H' a ws → True)
    (r : RepL C F ρ xs vs) : ItOk C F ρ (Itl C.K a) xs g := fun F' ρ' κ' H' i e S hg => ⟨fun hi => ⟨vs, hk _ _ _ _ e S hg, by rw [← r.length]; omega⟩, fun d hd => by
    obtain ⟨v, hv, rv⟩ := (r.ext e).get hd
    refine ⟨⟨vs, v, hk _ _ _ _ e S hg, hv⟩, fun x H2 ⟨h1, h2⟩ => ?_⟩
    subst h1
    have ev : v = x := Option.some.inj (hv.symm.trans (h2 vs (hk _ _ _ _ e S hg)))
    subst ev
    exact ⟨F', Ext.refl _ _, S, rv⟩⟩
theorem itOk_t {C : Ctx} {F : Hp} {ρ : Loc0} {a : Addr} {vs : List V} {xs : List D} {g : Kap → Prop} (hk : ∀ F' ρ' κ' H', Ext F ρ F' ρ' → StR C F' ρ' κ' H' → g κ' → SqT C.K H' a vs)
    (r : RepL C F ρ xs vs) : ItOk C F ρ (Itt C.K a) xs g := fun F' ρ' κ' H' i e S hg => ⟨fun hi => ⟨vs, hk _ _ _ _ e S hg, by rw [← r.length]; omega⟩, fun d hd => by
    obtain ⟨v, hv, rv⟩ := (r.ext e).get hd
    refine ⟨⟨vs, v, hk _ _ _ _ e S hg, hv⟩, fun x H2 ⟨h1, h2⟩ => ?_⟩
    subst h1
    have ev : v = x := Option.some.inj (hv.symm.trans (h2 vs (hk _ _ _ _ e S hg)))
    subst ev
    exact ⟨F', Ext.refl _ _, S, rv⟩⟩
theorem itOk_s {C : Ctx} {F : Hp} {ρ : Loc0} {x : Str} : ItOk C F ρ (Its x) (charsD x) gTrue := fun F' ρ' κ' H' i e S hg => ⟨fun hi => by
    show x.cps.size ≤ i
    rw [hi]; unfold charsD; rw [List.length_map, Array.length_toList]; exact Nat.le_refl _, fun d hd => by
    unfold charsD at hd
    rw [List.getElem?_map, Option.map_eq_some_iff] at hd
    obtain ⟨c, hc, rfl⟩ := hd
    rw [Array.getElem?_toList] at hc
    have hlt : i < x.cps.size := by
      obtain ⟨h, _⟩ := Array.getElem?_eq_some_iff.mp hc
      exact h
    refine ⟨hlt, fun y H2 ⟨h1, c', h2, h3⟩ => ?_⟩
    subst h1 h3
    rw [hc] at h2
    cases h2
    exact ⟨F', Ext.refl _ _, S, .str _⟩⟩
section
variable {X : Cx} {pins : List (Addr × Obj)} {σ : L2.St} {H : Hp} {s : Shared} {R : It → Hp → Prop} {tg : Expr} {E : Value → Shared → Prop}
theorem iter_l (I : L2.Inv X pins σ H s) {p : Addr} {xs : List V} (hq : SqL X.K H p xs) (q : R (Itl X.K p) H) : wpAny (model X.prog X.w) X.A (pyIter (.ref p)) (PIE X pins σ tg R) E s := by
  obtain ⟨its, rv, pl, hz⟩ := I.list hq
  exact wpAny_pyIter_list pl.isList (pi_one (tk := s.toks) I _ (turn_list p _) ⟨_, Heap.get?_push_size _ rfl, rfl, rfl⟩ q)
theorem iter_t (I : L2.Inv X pins σ H s) {p : Addr} {xs : List V} (hq : SqT X.K H p xs) (q : R (Itt X.K p) H) : wpAny (model X.prog X.w) X.A (pyIter (.ref p)) (PIE X pins σ tg R) E s := by
  obtain ⟨its, rv, pl, hz⟩ := I.tuple hq
  exact wpAny_pyIter_tuple (show s.heap.IsTuple p its.toArray from pl) (pi_one (tk := s.toks) I _ (turn_tuple p _) ⟨_, Heap.get?_push_size _ rfl, rfl, rfl⟩ q)
theorem iter_s (I : L2.Inv X pins σ H s) {x : Str} {t : Tok} (q : R (Its x) H) : wpAny (model X.prog X.w) X.A (pyIter (.str x t)) (PIE X pins σ tg R) E s := by
  cases ha : x.cps.all (· < 128)
  · exact wpAny_pyIter_wide ha (pi_one (tk := s.toks) I _ (turn_str _ x t "str_iterator" (.inr rfl)) ⟨_, Heap.get?_push_size _ rfl, rfl, rfl⟩ q)
  · exact wpAny_pyIter_ascii ha (pi_one (tk := s.toks) I _ (turn_str _ x t "str_ascii_iterator" (.inl rfl)) ⟨_, Heap.get?_push_size _ rfl, rfl, rfl⟩ q)
end
/-- a value that can be walked, as an iterator -/
def ItV (K : PySem.W.Frag) (v : V) (H : Hp) (R : It → Hp → Prop) : Prop := (∃ x, v = .str x ∧ R (Its x) H) ∨ (∃ p xs, v = .ref p ∧ SqL K H p xs ∧ R (Itl K p) H) ∨ ∃ p xs, v = .ref p ∧ SqT K H p xs ∧ R (Itt K p) H
theorem pi_val {X : Cx} {tg e : Expr} {te : TE} (he : PE X e te) : PI X tg e (fun σ H R => te σ H fun v H1 => ItV X.K v H1 R) := by
  refine ⟨fun pins s σ H R I h => thn (he.run pins s σ H _ I h) fun u s1 ⟨v, H1, I1, r1, q⟩ => ?_⟩
  rcases q with ⟨x, rfl, q⟩ | ⟨p, xs, rfl, hq, q⟩ | ⟨p, xs, rfl, hq, q⟩
  · obtain ⟨t, rfl⟩ := r1
    exact iter_s I1 q
  · cases r1
    exact iter_l I1 hq q
  · cases r1
    exact iter_t I1 hq q
theorem pi_seqD {X : Cx} {W : WX} {tg e : Expr} {a : DE} (ha : PED X W e a) : PID X W tg e (iSeq a) := by
  refine pi_weak (pi_val ha) fun σ H Q ⟨F, ρ, κ, δ, XD, QD, S, R, h, P, PX⟩ => ⟨F, ρ, κ, δ, XD, _, S, R, h, fun F1 ρ1 κ1 H1 d v e1 S1 R1 h1 => ?_, PX⟩
  cases d with
  | str x => cases R1; exact .inl ⟨x, rfl, P _ _ _ _ _ _ _ e1 S1 itOk_s h1⟩
  | cell n =>
    have h1' : (match κ1 n with
      | some (.live .lst xs) => QD xs (fun κ => κ n = some (.live .lst xs)) κ1
      | _ => False) := h1
    cases ek : κ1 n with
    | none => rw [ek] at h1'; exact h1'.elim
    | some c =>
      cases c with
      | dead => rw [ek] at h1'; exact h1'.elim
      | live k xs =>
        rw [ek] at h1'
        cases k <;> first | exact h1'.elim | skip
        obtain ⟨p, vs, rfl, hr, hm, rl⟩ := cell_at S1 R1 ek
        refine .inr (.inl ⟨p, vs, rfl, SqL.of hm, P _ _ _ _ _ _ _ e1 S1 ?_ h1'⟩)
        intro F2 ρ2 κ2 H2 i e2 S2 hg
        obtain ⟨p2, vs2, r2, _, hm2, rl2⟩ := S2.live n _ _ hg
        rw [e2.r _ _ hr] at r2
        cases r2
        refine ⟨fun hi => ⟨vs2, SqL.of hm2, by rw [← rl2.length]; omega⟩, fun d hd => ?_⟩
        obtain ⟨w, hv, rv⟩ := rl2.get hd
        refine ⟨⟨vs2, w, SqL.of hm2, hv⟩, fun x H3 ⟨h3, h4⟩ => ?_⟩
        subst h3
        have ev : w = x := Option.some.inj (hv.symm.trans (h4 vs2 (SqL.of hm2)))
        subst ev
        exact ⟨F2, Ext.refl _ _, S2, rv⟩
  | node k xs =>
    cases R1 with
    | @node _ _ a vs hh rr =>
      cases k <;> first | exact h1.elim | skip
      · exact .inr (.inl ⟨a, vs, rfl, SqL.of (S1.sub _ _ hh), P _ _ _ _ _ _ _ e1 S1 (itOk_l (k := X.K) (fun F' ρ' κ' H' e S _ => SqL.of (S.sub _ _ (e.f _ _ hh))) (fun _ _ _ _ _ _ _ _ _ => trivial) rr) h1⟩)
      · exact .inr (.inr ⟨a, vs, rfl, sqt_ext S1.sub hh, P _ _ _ _ _ _ _ e1 S1 (itOk_t (fun F' ρ' κ' H' e S _ => sqt_ext S.sub (sqt_ext e.f hh)) rr) h1⟩)
      · exact .inr (.inl ⟨a, vs, rfl, sql_ext S1.sub hh, P _ _ _ _ _ _ _ e1 S1 (itOk_l (k := X.K) (fun F' ρ' κ' H' e S _ => sql_ext S.sub (sql_ext e.f hh)) (fun _ _ _ _ _ _ _ _ _ => trivial) rr) h1⟩)
  | _ => exact h1.elim
/-- range(n), range(a, b) -/
def rangeD (lo : Int) (n : Nat) : List D := (List.range n).map fun i => D.int (lo + (i : Nat))
def iRange1 (as : DA) : DI := fun δ κ X Q => as δ κ X fun xs κ1 => match xs with
  | [.int j] => -(2 ^ 62) ≤ j ∧ j < 2 ^ 62 ∧ Q (rangeD 0 j.toNat) gTrue κ1
  | _ => False
def iRange2 (as : DA) : DI := fun δ κ X Q => as δ κ X fun xs κ1 => match xs with
  | [.int i, .int j] => (-(2 ^ 62) ≤ i ∧ i < 2 ^ 62 ∧ -(2 ^ 62) ≤ j ∧ j < 2 ^ 62) ∧ Q (rangeD i (j - i).toNat) gTrue κ1
  | _ => False
theorem itOk_r {C : Ctx} {F : Hp} {ρ : Loc0} {lo : Int} {n : Nat} : ItOk C F ρ (Itr lo n) (rangeD lo n) gTrue := fun F' ρ' κ' H' i e S hg => by
  unfold rangeD
  refine ⟨fun hi => by show n ≤ i; rw [hi, List.length_map, List.length_range]; exact Nat.le_refl _, fun d hd => ?_⟩
  rw [List.getElem?_map, Option.map_eq_some_iff] at hd
  obtain ⟨j, hj, rfl⟩ := hd
  obtain ⟨h1, h2⟩ := List.getElem?_eq_some_iff.mp hj
  rw [List.length_range] at h1
  rw [List.getElem_range] at h2
  subst h2
  refine ⟨h1, fun x H2 ⟨h3, h4⟩ => ?_⟩
  subst h3 h4
  exact ⟨F', Ext.refl _ _, S, .int _⟩
section
variable {X : Cx} {W : WX} {tg e1 e2 : Expr} {as : DA} {p pos : Pos}
theorem pi_range1D (hm : X.mg "range" = none) (ha : PAD X W [e1] as) (hg : Gl X "range" := by rfl) (hs : starEach [e1] X.env = [(false, eval e1 X.env)] := by rfl) : PID X W tg (.Call (.Name "range" p) [e1] [] pos) (iRange1 as) :=
  pi_weak (pi_range1 hg hm ha hs) fun σ H Q ⟨F, ρ, κ, δ, XD, QD, S, R, h, P, PX⟩ => ⟨F, ρ, κ, δ, XD, _, S, R, h, fun F1 ρ1 κ1 H1 xs vs e1 S1 R1 h1 => by
    match xs, h1 with
    | [.int j], h1 =>
      obtain ⟨v, rfl, r⟩ := repL1 R1
      cases r
      exact ⟨j, rfl, h1.1, h1.2.1, P _ _ _ _ _ _ _ e1 S1 itOk_r h1.2.2⟩, PX⟩
theorem pi_range2D (hm : X.mg "range" = none) (ha : PAD X W [e1, e2] as) (hg : Gl X "range" := by rfl) (hs : starEach [e1, e2] X.env = [(false, eval e1 X.env), (false, eval e2 X.env)] := by rfl) (hs2 : starEach [e2] X.env = [(false, eval e2 X.env)] := by rfl) : PID X W tg (.Call (.Name "range" p) [e1, e2] [] pos) (iRange2 as) :=
  pi_weak (pi_range2 hg hm ha hs hs2) fun σ H Q ⟨F, ρ, κ, δ, XD, QD, S, R, h, P, PX⟩ => ⟨F, ρ, κ, δ, XD, _, S, R, h, fun F1 ρ1 κ1 H1 xs vs e1 S1 R1 h1 => by
    match xs, h1 with
    | [.int i, .int j], h1 =>
      obtain ⟨v, u, rfl, r, r'⟩ := repL2 R1
      cases r; cases r'
      exact ⟨i, j, rfl, h1.1, P _ _ _ _ _ _ _ e1 S1 itOk_r h1.2⟩, PX⟩
end

/-! ### for -/
def dLoop (g : DG) (b : DS) (gd : Kap → Prop) (X : DX) (T : DEnds) : List D → DEnv → Kap → Prop
  | [], δ, κ => gd κ ∧ T.nx δ κ
  | d :: ds, δ, κ => gd κ ∧ g d δ κ X fun δ1 κ1 => b δ1 κ1 X { nx := dLoop g b gd X T ds, ct := dLoop g b gd X T ds, bk := T.nx, rt := T.rt }
def sFor (it : DI) (g : DG) (b : DS) : DS := fun δ κ X T => it δ κ X fun items gd κ1 => dLoop g b gd X T items δ κ1
theorem dLoop_gd {g : DG} {b : DS} {gd : Kap → Prop} {X : DX} {T : DEnds} {ds : List D} {δ : DEnv} {κ : Kap} (h : dLoop g b gd X T ds δ κ) : gd κ := by
  cases ds with
  | nil => exact h.1
  | cons d ds => exact h.1
section
variable {X : Cx} {W : WX} {e : Expr} {tg : Expr} {sts : List Stmt} {it : DI} {g : DG} {b : DS} {pos : Pos} {k : Nat}
theorem sd_for (G : Good k X W) (hi : PID X W tg e it) (hg : PGD X W tg g) (hb : PSsD X W sts b) (hs : ∀ x, foldedSetIterable e X.env x = pure x := by intro _; rfl) : PSD X W (.For tg e sts [] pos) (sFor it g b) :=
  ps_weak (ps_for G.po G.calm hi hg hb hs) fun T σ H ⟨F, ρ, κ, δ, XD, DD, S, R, h, P, PX⟩ => by
  refine ⟨F, ρ, κ, δ, XD, _, S, R, h, fun F1 ρ1 κ1 H1 J items gd e1 S1 hJ h1 => ?_, PX⟩
  refine ⟨fun i m σ H => ∃ F2 ρ2 κ2 δ2, Ext F1 ρ1 F2 ρ2 ∧ StR (CtxOf X) F2 ρ2 κ2 H ∧ RepS (CtxOf X) F2 ρ2 δ2 σ ∧ i ≤ items.length ∧ m = items.length - i ∧ dLoop g b gd XD DD (items.drop i) δ2 κ2, ⟨_, F1, ρ1, κ1, δ, Ext.refl _ _, S1, R.ext e1, Nat.zero_le _, rfl, h1⟩, ?_⟩
  rintro i m σ H ⟨F2, ρ2, κ2, δ2, e2, S2, R2, hi, rfl, h2⟩
  obtain ⟨q1, q2⟩ := hJ F2 ρ2 κ2 H i e2 S2 (dLoop_gd h2)
  have e12 := e1.trans e2
  by_cases hlt : i < items.length
  · have hd : items[i]? = some items[i] := List.getElem?_eq_getElem hlt
    obtain ⟨q3, q4⟩ := q2 _ hd
    rw [List.drop_eq_getElem_cons hlt] at h2
    refine .inr ⟨q3, _, fun _ _ h => h, fun x H3 hy => ?_⟩
    obtain ⟨F3, e3, S3, R3⟩ := q4 x H3 hy
    have again : PostN (CtxOf X) F3 ρ2 (dLoop g b gd XD DD (items.drop (i + 1))) (fun σ' H' => ∃ m', m' < items.length - i ∧ ∃ F2 ρ2 κ2 δ2, Ext F1 ρ1 F2 ρ2 ∧ StR (CtxOf X) F2 ρ2 κ2 H' ∧ RepS (CtxOf X) F2 ρ2 δ2 σ' ∧ i + 1 ≤ items.length ∧ m' = items.length - (i + 1) ∧ dLoop g b gd XD DD (items.drop (i + 1)) δ2 κ2) :=
      fun F4 ρ4 κ4 H4 δ4 σ4 e4 S4 R4 h4 => ⟨_, by omega, F4, ρ4, κ4, δ4, e2.trans (e3.trans e4), S4, R4, hlt, rfl, h4⟩
    exact ⟨F3, ρ2, κ2, δ2, _, XD, _, S3, R2.ext e3, R3, h2.2, fun F4 ρ4 κ4 H4 δ4 σ4 e4 S4 R4 h4 => ⟨F4, ρ4, κ4, δ4, XD, _, S4, R4, h4, ⟨again.ext e4, P.rt.ext (e12.trans (e3.trans e4)), P.nx.ext (e12.trans (e3.trans e4)), again.ext e4⟩, PX.ext (e12.trans (e3.trans e4))⟩, PX.ext (e12.trans e3)⟩
  · have e : i = items.length := by omega
    subst e
    rw [List.drop_length] at h2
    exact .inl ⟨q1 rfl, P.nx _ _ _ _ _ _ e12 S2 R2 h2.2⟩
end

/-! ### list comprehensions -/
/-- the names that a comprehension's target binds: one (inl), or those of a tuple -/
abbrev TN := Sum Nat (List Nat)
def bindL : List Nat → List D → DEnv → Option DEnv
  | [], [], δ => some δ
  | i :: is, d :: ds, δ => bindL is ds (δ.set i (some d))
  | _, _, _ => none
def bindT (t : TN) (d : D) (δ : DEnv) (κ : Kap) : Option DEnv := match t with
  | .inl i => some (δ.set i (some d))
  | .inr is => match view d κ with
    | some (.tup, xs) => bindL is xs δ
    | _ => none
def gvL : List Nat → TGs
  | [] => gNil
  | i :: is => gCons (gName i) (gvL is)
def gvT (K : PySem.W.Frag) : TN → TG
  | .inl i => gName i
  | .inr is => gTup K is.length (gvL is)
theorem wipe_set {σ : L2.St} {x : Option V} {i : Nat} : ∀ {vs : List Nat}, i ∈ vs → L2.wipe (σ.set i x) vs = L2.wipe σ vs
  | v :: vs, h => by
    unfold L2.wipe
    by_cases hi : i ∈ vs
    · rw [wipe_set hi]
    · have hv : i = v := by
        rcases List.mem_cons.mp h with e | e
        · exact e
        · exact absurd e hi
      subst hv
      have key : ∀ (vs : List Nat) (σ : L2.St), i ∉ vs → L2.wipe (σ.set i x) vs = (L2.wipe σ vs).set i x := by
        intro vs
        induction vs with
        | nil => intro σ _; rfl
        | cons w vs ih =>
          intro σ hn
          unfold L2.wipe
          rw [ih σ (fun z => hn (List.mem_cons_of_mem _ z)), List.set_comm _ _ (fun z => hn (by rw [z]; exact List.mem_cons_self))]
      rw [key vs σ hi, List.set_set]
theorem wipe_wipe {σ : L2.St} : ∀ {vs ws : List Nat}, (∀ v ∈ vs, v ∈ ws) → L2.wipe (L2.wipe σ vs) ws = L2.wipe σ ws
  | [], _, _ => rfl
  | v :: vs, ws, h => by
    show L2.wipe ((L2.wipe σ vs).set v none) ws = _
    rw [wipe_set (h v List.mem_cons_self), wipe_wipe fun w hw => h w (List.mem_cons_of_mem _ hw)]
section
variable {C : Ctx} {F : Hp} {ρ : Loc0} {κ : Kap} {H : Hp}
theorem bindL_at {vs0 : List Nat} {σ0 : L2.St} {Q : L2.St → Hp → Prop} : ∀ {is : List Nat} {ds : List D} {vs : List V} {δ δ' : DEnv} {σ : L2.St}, (∀ i ∈ is, i ∈ vs0) → bindL is ds δ = some δ' → RepS C F ρ δ σ → RepL C F ρ ds vs → L2.wipe σ vs0 = σ0 →
    (∀ σ', RepS C F ρ δ' σ' → L2.wipe σ' vs0 = σ0 → Q σ' H) → gvL is vs σ H Q
  | [], [], _, _, _, _, _, h, R, .nil, hw, hq => by cases h; exact ⟨rfl, hq _ R hw⟩
  | i :: is, d :: ds, _, _, _, _, hi, h, R, .cons r t, hw, hq => ⟨_, _, rfl, bindL_at (fun j hj => hi j (List.mem_cons_of_mem _ hj)) h (R.set r i) t (by rw [wipe_set (hi i List.mem_cons_self)]; exact hw) hq⟩
theorem bindT_at {t : TN} {d : D} {v : V} {δ δ' : DEnv} {σ : L2.St} {vs0 : List Nat} {σ0 : L2.St} {Q : L2.St → Hp → Prop} (S : StR C F ρ κ H) (hi : ∀ i ∈ (match t with | .inl i => [i] | .inr is => is), i ∈ vs0) (h : bindT t d δ κ = some δ') (R : RepS C F ρ δ σ) (r : Rep C F ρ d v) (hw : L2.wipe σ vs0 = σ0)
    (hq : ∀ σ', RepS C F ρ δ' σ' → L2.wipe σ' vs0 = σ0 → Q σ' H) : gvT C.K t v σ H Q := by
  cases t with
  | inl i =>
    cases h
    exact hq _ (R.set r i) (by rw [wipe_set (hi i List.mem_cons_self)]; exact hw)
  | inr is =>
    have h' : (match view d κ with
      | some (.tup, xs) => bindL is xs δ
      | _ => none) = some δ' := h
    cases ev : view d κ with
    | none => rw [ev] at h'; cases h'
    | some p =>
      obtain ⟨k, xs⟩ := p
      rw [ev] at h'
      cases k <;> first | (cases h'; done) | skip
      obtain ⟨a, vs, rfl, hk, rl⟩ := view_at S r ev
      have hlen : ∀ {is : List Nat} {xs : List D} {δ δ' : DEnv}, bindL is xs δ = some δ' → xs.length = is.length := by
        intro is
        induction is with
        | nil => intro xs δ δ' h; cases xs with
          | nil => rfl
          | cons => cases h
        | cons i is ih => intro xs δ δ' h; cases xs with
          | nil => cases h
          | cons x xs => exact congrArg (· + 1) (ih h)
      exact ⟨a, vs, rfl, hk, by rw [← rl.length]; exact hlen h', bindL_at hi h' R rl hw hq⟩
end
abbrev XF : DX := fun _ _ _ _ => False
abbrev WF : WX := fun _ _ _ _ => False
def lcLoop (n : Nat) (t : TN) (tt : DT) (e : DE) (gd : Kap → Prop) (vs : List Nat) (δ : DEnv) (fin : List D → Kap → Prop) : List D → List D → Kap → Prop
  | [], acc, κ => gd κ ∧ fin acc κ
  | d :: ds, acc, κ => gd κ ∧ ∃ δ1, bindT t d (dwipe δ vs) κ = some δ1 ∧ tt δ1 κ XF fun b κ2 => if b = true then e δ1 κ2 XF fun y κ3 => κ3 n = some (.live .lst acc) ∧ acc.length < sizeLine ∧ lcLoop n t tt e gd vs δ fin ds (acc ++ [y]) (kset κ3 n (.live .lst (acc ++ [y])))
      else lcLoop n t tt e gd vs δ fin ds acc κ2
def dLc (m : Bool) (it : DI) (t : TN) (tt : DT) (e : DE) (vs : List Nat) : DE := fun δ κ X Q => it δ κ X fun items gd κ1 => ∀ n, κ1 n = none →
  lcLoop n t tt e gd vs δ (fun acc κ' => κ' n = some (.live .lst acc) ∧ if m = true then Q (.cell n) κ' else Q (.lst acc) (kset κ' n .dead)) items [] (kset κ1 n (.live .lst []))
def tYesD : DT := fun _ κ _ Q => Q true κ
theorem lc_gd {n : Nat} {t : TN} {tt : DT} {e : DE} {gd : Kap → Prop} {vs : List Nat} {δ : DEnv} {fin : List D → Kap → Prop} {ds acc : List D} {κ : Kap} (h : lcLoop n t tt e gd vs δ fin ds acc κ) : gd κ := by
  cases ds with
  | nil => exact h.1
  | cons d ds => exact h.1
theorem lift_lc {C : Ctx} {W : WX} {m : Bool} {it : DI} {t : TN} {tt : DT} {e : DE} {vs : List Nat} {ttv : TT} {ev : TE} (ht : ∀ {σ H Q}, liftT C WF tt σ H Q → ttv σ H Q) (he : ∀ {σ H Q}, liftE C WF e σ H Q → ev σ H Q) (hi : ∀ i ∈ (match t with | .inl i => [i] | .inr is => is), i ∈ vs)
    {σ : L2.St} {H : Hp} {Q : VK} (h : liftE C W (dLc m it t tt e vs) σ H Q) : tLc (liftI C W it) (gvT C.K t) ttv ev vs σ H Q := by
  obtain ⟨F, ρ, κ, δ, XD, QD, S, R, h, P, PX⟩ := h
  refine ⟨F, ρ, κ, δ, XD, _, S, R, h, fun F1 ρ1 κ1 H1 J items gd e1 S1 hJ h1 D0 hD => ?_, PX⟩
  obtain ⟨n, hn⟩ := S1.fresh
  obtain ⟨ρ2, e2, hr2, S2⟩ := S1.cell (o := .lst []) (k := .lst) (vs := []) (xs := []) hD (fun _ q => q) .nil hn
  have h2 := h1 n hn
  refine ⟨fun i m H => ∃ F3 ρ3 κ3 acc, Ext F1 ρ2 F3 ρ3 ∧ StR C F3 ρ3 κ3 H ∧ i ≤ items.length ∧ m = items.length - i ∧ lcLoop n t tt e gd vs δ _ (items.drop i) acc κ3, ⟨_, F1, ρ2, _, [], Ext.refl _ _, S2, Nat.zero_le _, rfl, h2⟩, ?_⟩
  rintro i m' H ⟨F3, ρ3, κ3, acc, e3, S3, hi3, rfl, h3⟩
  have e23 := e2.trans e3
  have hr3 := e3.r _ _ hr2
  obtain ⟨q1, q2⟩ := hJ F3 ρ3 κ3 H i e23 S3 (lc_gd h3)
  by_cases hlt : i < items.length
  · have hd : items[i]? = some items[i] := List.getElem?_eq_getElem hlt
    obtain ⟨q3, q4⟩ := q2 _ hd
    rw [List.drop_eq_getElem_cons hlt] at h3
    obtain ⟨_, δ1, hb, h4⟩ := h3
    refine .inr ⟨q3, _, fun _ h => h, fun x H4 hy => ?_⟩
    obtain ⟨F4, e4, S4, R4⟩ := q4 x H4 hy
    have e34 := e23.trans e4
    refine bindT_at (σ0 := L2.wipe σ vs) S4 hi hb ((R.ext (e1.trans e34)).wipe vs) R4 (wipe_wipe fun _ h => h) fun σ5 R5 hw => ⟨hw, ht ⟨F4, ρ3, κ3, δ1, XF, _, S4, R5, h4, fun F5 ρ5 κ5 H5 b e5 S5 h5 => ?_, fun _ _ _ _ _ _ _ _ _ _ _ _ _ _ h => h.elim⟩⟩
    have e45 := e34.trans e5
    cases b with
    | true =>
      show ev σ5 H5 _
      refine he ⟨F5, ρ5, κ5, δ1, XF, _, S5, R5.ext e5, h5, fun F6 ρ6 κ6 H6 y v e6 S6 R6 ⟨h6, h7, h8⟩ => ?_, fun _ _ _ _ _ _ _ _ _ _ _ _ _ _ h => h.elim⟩
      have e36 := (e3.trans e4).trans (e5.trans e6)
      obtain ⟨a, ws, g1, g2, g3, g4⟩ := S6.live n _ _ h6
      rw [e36.r _ _ hr2] at g1
      cases g1
      have g3' : H6 D0 = some (.lst ws) := g3
      refine ⟨ws, g3', by rw [← g4.length]; exact h7, items.length - (i + 1), by omega, F6, ρ6, _, _, e36, ?_, hlt, rfl, h8⟩
      exact S6.write (k' := .lst) h6 (e36.r _ _ hr2) (fun _ q => q) (g4.append (.cons R6 .nil))
    | false =>
      show ∃ m', m' < items.length - i ∧ _
      exact ⟨items.length - (i + 1), by omega, F5, ρ5, κ5, acc, (e3.trans e4).trans e5, S5, hlt, rfl, h5⟩
  · have e : i = items.length := by omega
    subst e
    rw [List.drop_length] at h3
    obtain ⟨_, h4, h5⟩ := h3
    refine .inl ⟨q1 rfl, ?_⟩
    cases m with
    | true => exact P _ _ _ _ _ _ (e1.trans e23) S3 (.cell hr3) h5
    | false =>
      obtain ⟨F4, e4, r4, S4⟩ := S3.freeze h4 hr3
      exact P _ _ _ _ _ _ (e1.trans (e23.trans e4)) S4 r4 h5
section
variable {X : Cx} {W : WX} {elt tg iter : Expr} {ifs : List Expr} {it : DI} {tt : DT} {a : DE} {pos : Pos} {k : Nat} {scope : Scope}
abbrev PTsD (X : Cx) (W : WX) (ifs : List Expr) (dt : DT) : Prop := PTs X ifs (liftT (CtxOf X) W dt)
theorem pts_nilD : PTsD X W [] tYesD := ⟨fun pins s σ H Q I ⟨F, ρ, κ, δ, XD, QD, S, R, h, P, PX⟩ => pts_nil.run pins s σ H Q I (P _ _ _ _ _ (Ext.refl _ _) S h)⟩
theorem pts_oneD {e : Expr} (h : PTD X W e tt) : PTsD X W [e] tt := pts_one h
theorem pd_lc (m : Bool) (own : List (Str × Nat)) (t : TN) (G : Good k X W) (hi : PID X W tg iter it) (hg : ∀ (s : Shared) (H : Hp) (C : Addr) (cl : List (Str × Addr)) (fp : List Addr), PG (X.blk s H scope (compEnvC scope cl C X.env) fp) tg (gvT X.K t))
    (ht : ∀ (s : Shared) (H : Hp) (C : Addr) (cl : List (Str × Addr)) (fp : List Addr), PTsD (X.blk s H scope (compEnvC scope cl C X.env) fp) WF ifs tt) (he : ∀ (s : Shared) (H : Hp) (C : Addr) (cl : List (Str × Addr)) (fp : List Addr), PED (X.blk s H scope (compEnvC scope cl C X.env) fp) WF elt a)
    (ok : blkC X.N X.env.scope scope own = true := by kernel_rfl) (hin : ∀ i ∈ (match t with | .inl i => [i] | .inr is => is), i ∈ own.map (·.2) := by decide) (hs : ∀ x, foldedSetIterable iter X.env x = pure x := by intro _; rfl) :
    PED X W (.ListComp elt [⟨tg, iter, ifs, 0⟩] scope pos) (dLc m it t tt a (own.map (·.2))) := pe_weak (pe_lc G.calm G.nd hi (blkOk_by ok) hg ht he hs) fun _ _ _ => lift_lc id id hin
theorem sd_setLc (i : Nat) (m : Bool) (own : List (Str × Nat)) (t : TN) {y : Str} {py spos : Pos} (G : Good k X W) (hi : PID X W tg iter it) (hg : ∀ (s : Shared) (H : Hp) (C : Addr) (cl : List (Str × Addr)) (fp : List Addr), PG (X.blk s H scope (compEnvC scope cl C X.env) fp) tg (gvT X.K t))
    (ht : ∀ (s : Shared) (H : Hp) (C : Addr) (cl : List (Str × Addr)) (fp : List Addr), PTsD (X.blk s H scope (compEnvC scope cl C X.env) fp) WF ifs tt) (he : ∀ (s : Shared) (H : Hp) (C : Addr) (cl : List (Str × Addr)) (fp : List Addr), PED (X.blk s H scope (compEnvC scope cl C X.env) fp) WF elt a)
    (hsw : swapsWith (.ListComp elt [⟨tg, iter, ifs, 0⟩] scope pos) (some (.Name y py)) spos.line X.env = pure true := by exact sw_true rfl rfl rfl (by decide +kernel))
    (hy : X.N[i]? = some y := by rfl) (hyl : X.env.scope.names.lookup y = some .local := by rfl)
    (ok : blkC X.N X.env.scope scope own = true := by kernel_rfl) (hin : ∀ i ∈ (match t with | .inl i => [i] | .inr is => is), i ∈ own.map (·.2) := by decide) (hs : ∀ x, foldedSetIterable iter X.env x = pure x := by intro _; rfl) :
    PSD X W (.Assign [.Name y py] (.ListComp elt [⟨tg, iter, ifs, 0⟩] scope pos) spos) (sAsg (dLc m it t tt a (own.map (·.2))) (gN i)) :=
  ps_weak (ps_setLc G.calm G.nd hy hyl hsw hi (blkOk_by ok) hg ht he hs) fun T σ H ⟨F, ρ, κ, δ, XD, DD, S, R, h, P, PX⟩ =>
  lift_lc id id hin ⟨F, ρ, κ, δ, XD, _, S, R, h, fun F1 ρ1 κ1 H1 x v e1 S1 R1 h1 => P.nx _ _ _ _ _ _ e1 S1 ((R.ext e1).set R1 i) h1, PX⟩
end
end DL

/-! DL: defs, calls, the law's end. -/
namespace DL
open PySem PySem.Spec PyProof.Rows L2

def PostXE (C : Ctx) (F : Hp) (ρ : Loc0) (XD : Str → List D → Kap → Prop) (E : XK) : Prop := ∀ F' ρ' κ' H' c fs cls dd, Ext F ρ F' ρ' → StR C F' ρ' κ' H' → RepX C F' ρ' c fs cls dd → XD c fs κ' → E cls dd H'
/-- a def keeps a promise over data -/
structure FnG (P : Program) (w : World) (K : PySem.W.Frag) (mg : Str → Option Value) (base : Heap) (k : Nat) (f : Addr) (fd : FuncData) (ps : List Str) (sp : DSp) : Prop where
  len : ∀ ds κ XD Q, sp ds κ XD Q → ds.length = ps.length
  run : ∀ (A : Around) (outer : List Env) (s : Shared) (H : Hp) (args : Args) (us : List Value) (vs : List V) (ds : List D) (F : Hp) (ρ : Loc0) (κ : Kap) (XD : Str → List D → Kap → Prop) (QD : DQ) (Q : VK) (E : XK), Room k A → A.guards = some [] →
    Env0 P w K mg base A outer s H → BindsTo s fd args (ps.zip us) → Vals vs us → StR ⟨K, mg⟩ F ρ κ H → RepL ⟨K, mg⟩ F ρ ds vs → sp ds κ XD QD → Post ⟨K, mg⟩ F ρ QD Q → PostXE ⟨K, mg⟩ F ρ XD E →
    codeAny (model P w) A (.call (.ref f) args) (CR (L2N.CX P w) outer P w H s Q E) s
theorem FnG.mono {P : Program} {w : World} {K : PySem.W.Frag} {mg : Str → Option Value} {base : Heap} {j k : Nat} {f : Addr} {fd : FuncData} {ps : List Str} {sp : DSp} (F : FnG P w K mg base j f fd ps sp) (h : j ≤ k) : FnG P w K mg base k f fd ps sp :=
  ⟨F.len, fun A outer s H args us vs ds F0 ρ κ XD QD Q E hr => F.run A outer s H args us vs ds F0 ρ κ XD QD Q E (hr.mono h)⟩
theorem FnG.imp {P : Program} {w : World} {K : PySem.W.Frag} {mg : Str → Option Value} {base : Heap} {k : Nat} {f : Addr} {fd : FuncData} {ps : List Str} {sp sp' : DSp} (F : FnG P w K mg base k f fd ps sp) (h : ∀ ds κ X Q, sp' ds κ X Q → sp ds κ X Q) : FnG P w K mg base k f fd ps sp' :=
  ⟨fun ds κ X Q q => F.len ds κ X Q (h _ _ _ _ q), fun A outer s H args us vs ds F0 ρ κ XD QD Q E hr hg he hb hv S R hs => F.run A outer s H args us vs ds F0 ρ κ XD QD Q E hr hg he hb hv S R (h _ _ _ _ hs)⟩
/-- a def's promise, by its body -/
def startD (n : Nat) (ds : List D) : DEnv := ds.map some ++ List.replicate (n - ds.length) none
def spOf (n m : Nat) (b : DS) : DSp := fun ds κ XD Q => ds.length = m ∧ b (startD n ds) κ (fun _ c fs κ' => XD c fs κ') { nx := fun _ κ' => Q .non κ', rt := Q }
theorem repS_start {C : Ctx} {F : Hp} {ρ : Loc0} {N : List Str} {ds : List D} {vs : List V} (r : RepL C F ρ ds vs) : RepS C F ρ (startD N.length ds) (L2.start N vs) := by
  unfold startD L2.start
  refine ⟨by simp only [List.length_append, List.length_map, List.length_replicate, r.length], fun i d h => ?_⟩
  by_cases hi : i < ds.length
  · rw [List.getElem?_append_left (by rw [List.length_map]; exact hi), List.getElem?_map] at h
    rw [List.getElem?_append_left (by rw [List.length_map, ← r.length]; exact hi), List.getElem?_map]
    cases e : ds[i]? with
    | none => rw [e] at h; cases h
    | some d' =>
      rw [e] at h
      cases h
      obtain ⟨v, h1, h2⟩ := r.get e
      exact ⟨v, by rw [h1]; rfl, h2⟩
  · rw [List.getElem?_append_right (by rw [List.length_map]; omega), List.getElem?_replicate] at h
    split at h <;> cases h
abbrev cxD (P : Program) (w : World) (K : PySem.W.Frag) (mg : Str → Option Value) (base : Heap) (N : List Str) (qual : Str) (scope : Scope) (f : Addr) (cd : Value) (A : Around) (outer : List Env) (s : Shared) (H : Hp) (E : XK) : Cx :=
  cxOf (L2N.CX P w) P w K mg base N qual scope f cd A outer s H E
abbrev wxE (E : XK) : WX := fun cls d _ H => E cls d H
section
variable {P : Program} {w : World} {K : PySem.W.Frag} {mg : Str → Option Value} {base : Heap}
/-- THE RULE for a def -/
theorem Fn_ok {x qual : Str} {st : Stmt} {f : Addr} {fd : FuncData} {N ps : List Str} {k : Nat} {b : DS} (F : Fun K x qual st f fd) (S : FnScope N ps (defScope st)) (sm : ∃ o, base.get? sysModules = some o)
    (hbody : ∀ (cdv : Value) (A : Around) (outer : List Env) (s : Shared) (H : Hp) (E : XK), Good k (cxD P w K mg base N qual (defScope st) f cdv A outer s H E) (wxE E) → PSsD (cxD P w K mg base N qual (defScope st) f cdv A outer s H E) (wxE E) (defBody st) b) :
    FnG P w K mg base (k + 1) f fd ps (spOf N.length ps.length b) := by
  refine ⟨fun ds κ XD Q h => h.1, fun A outer s H args us vs ds F0 ρ κ XD QD Q E hr hg e0 hb rv S0 R0 hsp PQ PE => ?_⟩
  obtain ⟨oc, od, kV, doc, pm, an, cdv, ct, osl, rfl, lk, hcd⟩ := F.ex
  have hl : vs.length = ps.length := by rw [← R0.length, hsp.1]
  have KX : K.In s.heap := e0.mod.kin.keeps fun b o e => (e0.bs b o e).1
  have lim : s.heap.NoLimit := e0.mod.nolimit.keeps fun b o e => (e0.bs b o e).1
  have kinds : ∀ y ∈ ps.zip us, (defScope st).names.lookup y.1 = some .local ∨ ((defScope st).names.lookup y.1 = some .cell ∧ ((cellsFrom (s.heap.objs.size + 1) (defScope st).names []).lookup y.1).isSome = true) := fun y hy => by
    rcases S.par y.1 (List.of_mem_zip (a := y.1) (b := y.2) hy).1 with q | q
    · exact .inl q
    · exact .inr ⟨q, PySem.W.cellsFrom_some _ _ _ (.inl q)⟩
  refine codeAny_call_function hr.depth (KX _ _ lk) rfl S.co S.gen rfl (PySem.W.codeRec_of KX hcd) (hb _ _ _ _ (wpAny_newFunctionEnv_cells S.kind kinds fun env he s1 x => ?_))
  subst he
  refine ⟨lim.keeps x.toInCall.keep, codeAny_func ?_⟩
  have I := inv_start (CX := L2N.CX P w) (N := N) (qual := qual) (E := E) (f := f) (cd := cdv) S hr.hd e0 hl rv x
  have g : Good k (cxD P w K mg base N qual (defScope st) f cdv A outer s H E) (wxE E) :=
    ⟨L2N.takes_of rfl rfl rfl rfl, passes_of rfl, hr.deeper _, hg, sm, rfl, S.nd⟩
  refine wpAny_mono ((hbody cdv A outer s H E g).run [] s1 _ H ⟨fun _ H' => Q .non H', Q, fun _ _ => False, fun _ _ => False⟩ I
    ⟨F0, ρ, κ, startD N.length ds, _, _, S0, repS_start R0, hsp.2, ⟨fun F' ρ' κ' H' δ σ e S R q => PQ _ _ _ _ _ _ e S .non q, PQ, fun _ _ _ _ _ _ _ _ _ z => z.elim, fun _ _ _ _ _ _ _ _ _ z => z.elim⟩,
      fun F' ρ' κ' H' δ σ c fs cls dd e S R rx q => PE _ _ _ _ _ _ _ _ e S rx q⟩) (fun fl s' hs => ?_) fun e s' hs => hs
  cases fl with
  | ret u =>
    obtain ⟨v, σ', H', J, rv', q⟩ := hs
    exact ⟨v, H', J.os, J.bare, J.base, J.hok, rv', q⟩
  | next =>
    obtain ⟨σ', H', J, q⟩ := hs
    exact ⟨.non, H', J.os, J.bare, J.base, J.hok, rfl, q⟩
  | brk => obtain ⟨_, _, _, q⟩ := hs; exact q.elim
  | cont => obtain ⟨_, _, _, q⟩ := hs; exact q.elim
end
/-! ### calls -/
def dCall (sp : DSp) (dvs : List D) (as : DA) : DE := fun δ κ X Q => as δ κ X fun xs κ1 => sp (xs ++ dvs) κ1 (X δ) Q
section
variable {X : Cx} {W : WX} {k : Nat} {f : Addr} {fd : FuncData} {ps : List Str} {sp : DSp} {dvs : List D} {ds : List Value} {x : Str} {e : Expr} {es : List Expr} {as : DA} {p pos : Pos}
theorem run_fnG {pins : List (Addr × Obj)} {σ : L2.St} {δ : DEnv} {H : Hp} {s : Shared} {Q : VK} {us : List Value} {vs : List V} {args : Args} {xs : List D} {F : Hp} {ρ : Loc0} {κ : Kap} {XD : DX} {QD : DQ} (G : Good k X W) (F1 : FnG X.prog X.w X.K X.mg X.base k f fd ps sp) (I : L2.Inv X pins σ H s) (hb : BindsTo s fd args (ps.zip us)) (r : Vals vs us)
    (S : StR (CtxOf X) F ρ κ H) (R : RepS (CtxOf X) F ρ δ σ) (rr : RepL (CtxOf X) F ρ xs vs) (h : sp xs κ (XD δ) QD) (P : Post (CtxOf X) F ρ QD Q) (PX : PostX (CtxOf X) F ρ XD W) : wpAny (model X.prog X.w) X.A (call (.ref f) args.pos args.kw) (EP X pins σ Q) X.xe s := by
  refine wpAny_call (codeAny_mono (F1.run X.A X.stack s H args us vs xs F ρ κ _ _ Q (fun cls dd H' => W cls dd σ H') G.rm G.gd I.env0 hb r S rr h P fun F' ρ' κ' H' c fs cls dd e S' rx q => PX _ _ _ _ _ _ _ _ _ _ e S' (R.ext e) rx q) fun rs s' hq => ?_)
  cases rs with
  | error er => exact G.tk er s' (L2N.XE.of_call I (fun _ _ _ h => h) hq)
  | ok fl =>
    cases fl with
    | ret u => exact I.after hq
    | next => exact False.elim hq
    | brk => exact False.elim hq
    | cont => exact False.elim hq
theorem pd_call (G : Good k X W) (F1 : FnG X.prog X.w X.K X.mg X.base k f fd ps sp) (hm : X.mg x = some (.ref f)) (hk : PySem.W.keepIn X.K (.ref f) = true) (hb : Binds X.K fd ps ds) (hd : ∃ dv, Vals dv ds ∧ ∀ F ρ, RepL (CtxOf X) F ρ dvs dv)
    (ha : PAD X W (e :: es) as) (hg : Gl X x := by rfl) (hdb : (x == ("__debug__" : Str)) = false := by decide) (he : starEach (e :: es) X.env = (false, eval e X.env) :: starEach es X.env := by rfl) (hpl : (backTo pos (starEach es X.env)).any (·.1) = false := by rfl) :
    PED X W (.Call (.Name x p) (e :: es) [] pos) (dCall sp dvs as) := by
  refine ⟨fun pins s σ H Q I ⟨F, ρ, κ, δ, XD, QD, S, R, h, P, PX⟩ => ?_⟩
  refine wpAny_Call_Name_kw (ld_glob I hg hm ?_ hdb)
  refine PySem.W.callWith_K (h₀ := X.base) I.ok.mod.kin hk (thn (ha.run pos pins s σ H (fun vs H1 => ∃ F1 ρ1 κ1 xs, Ext F ρ F1 ρ1 ∧ StR (CtxOf X) F1 ρ1 κ1 H1 ∧ RepL (CtxOf X) F1 ρ1 xs vs ∧ sp (xs ++ dvs) κ1 (XD δ) QD) I
    ⟨F, ρ, κ, δ, XD, _, S, R, h, fun F1 ρ1 κ1 H1 xs vs e1 S1 R1 h1 => ⟨F1, ρ1, κ1, xs, e1, S1, R1, h1⟩, PX⟩) fun us s1 ⟨vs, H1, I1, r1, F2, ρ1, κ1, xs, e1, S1, R1, h1⟩ => ⟨I1.kIn, ?_⟩) he hpl
  obtain ⟨dv, v1, v2⟩ := hd
  have hl : (us ++ ds).length = ps.length := by
    rw [← F1.len _ _ _ _ h1, List.length_append, List.length_append, R1.length, Paired.length r1, (v2 F2 ρ1).length, Paired.length v1]
  exact run_fnG G F1 (args := ⟨us, []⟩) I1 (hb s1 us I1.kIn hl) (r1.append v1) S1 (R.ext e1) (R1.append (v2 _ _)) h1 (P.ext e1) (PX.ext e1)
theorem pd_call0 (G : Good k X W) (F1 : FnG X.prog X.w X.K X.mg X.base k f fd ps sp) (hm : X.mg x = some (.ref f)) (hk : PySem.W.keepIn X.K (.ref f) = true) (hb : Binds X.K fd ps ds) (hd : ∃ dv, Vals dv ds ∧ ∀ F ρ, RepL (CtxOf X) F ρ dvs dv)
    (hg : Gl X x := by rfl) (hdb : (x == ("__debug__" : Str)) = false := by decide) : PED X W (.Call (.Name x p) [] [] pos) (dCall sp dvs dNil) := by
  refine ⟨fun pins s σ H Q I ⟨F, ρ, κ, δ, XD, QD, S, R, h, P, PX⟩ => ?_⟩
  refine wpAny_Call_Name_kw (ld_glob I hg hm ?_ hdb)
  obtain ⟨dv, v1, v2⟩ := hd
  have hl : (([] : List Value) ++ ds).length = ps.length := by
    rw [← F1.len _ _ _ _ h, List.length_append, List.length_append, (v2 F ρ).length, Paired.length v1]; rfl
  exact PySem.W.callWith_K0 I.kIn hk (run_fnG G F1 (args := ⟨[], []⟩) I (hb s [] I.kIn hl) v1 S R (v2 _ _) h P PX)
end
/-- no defaults -/
theorem nodef {X : Cx} : ∃ dv, Vals dv ([] : List Value) ∧ ∀ F ρ, RepL (CtxOf X) F ρ [] dv := ⟨[], .nil, fun _ _ => .nil⟩

/-! ### the law's end -/
theorem repL_script {C : Ctx} {F : Hp} {ρ : Loc0} {a : Addr} {ns : List Int} (h : SqL C.K F a (ns.map V.int)) : RepL C F ρ [.node .klst (ns.map D.int)] [.ref a] :=
  .cons (.node (k := .klst) h RepL.ofInts) .nil
theorem law_end {P : Program} {w : World} {K : PySem.W.Frag} {mg mb : Str → Option Value} {k : Nat} {fa a : Addr} {fd : FuncData} {x : Str} {sp : DSp} {s1 : Shared} {vs : List Value} {ns : List Int}
    (KX : K.In s1.heap) (hns : s1.heap.Ns mainGlobals mg) (hb : s1.heap.Ns builtinsNs mb) (hbb : ∀ x : Str, x ≠ "__name__" → mb x = bootBuiltins x) (hlim : s1.heap.NoLimit) (hsm : ∃ mm, s1.heap.Ns sysModules mm) (hg : s1.gens = #[])
    (ha : s1.heap.get? a = some { cls := .type "list", data := .seq vs.toArray }) (hi : IntsAre vs ns) (hl : ns.length ≤ sizeLine) (hr : Room k callerA)
    (F : ∀ base : Heap, K.In base → base.Ns mainGlobals mg → (∃ o, base.get? sysModules = some o) → FnG P w K mg base k fa fd [x] sp) (hbind : ∀ (s : Shared) (u : Value), BindsTo s fd ⟨[u], []⟩ [(x, u)])
    (hsp : sp [.node .klst (ns.map D.int)] (fun _ => none) (fun _ _ _ => False) (fun d _ => d = .bl true)) :
    codeAny (model P w) callerA (.call (.ref fa) ⟨[.ref a], []⟩) (fun r s' => r = .ok (.ret (.bool true)) ∧ OldK s1.heap s'.heap ∧ s'.os = s1.os ∧ AllBare s'.gens) s1 := by
  have rv := vals_ints hi
  have lenV := hi.length
  -- an abstract heap in which at most the script is tracked
  have go : ∀ H : Hp, (∀ b u, H b = some u → b = a ∧ ∃ o xs, u = .frz o (.lst xs) ∧ s1.heap.get? a = some o) → SqL K H a (ns.map V.int) → HOk P w H s1.heap → (∀ u, H a = some u → K.lookup a = none) →
      codeAny (model P w) callerA (.call (.ref fa) ⟨[.ref a], []⟩) (fun r s' => r = .ok (.ret (.bool true)) ∧ OldK s1.heap s'.heap ∧ s'.os = s1.os ∧ AllBare s'.gens) s1 := by
    intro H hO hS hok hK
    have free : ∀ {b : Addr} {o : Obj}, s1.heap.get? b = some o → (∀ xs n, o.data ≠ .seq xs n) → H b = none := fun {b o} e d => by
      cases q : H b with
      | none => rfl
      | some u =>
        obtain ⟨rfl, _⟩ := hO b u q
        rw [ha] at e
        cases e
        exact absurd rfl (d _ _)
    have nsK : ∀ {b : Addr} {m : Str → Option Value}, s1.heap.Ns b m → (hidT s1.heap H).Ns b m := fun {b m} ⟨o, es, ep, e, d, r⟩ => ⟨o, es, ep, hidT_get e (free e fun xs n z => by rw [d] at z; cases z), d, r⟩
    have kin : K.In (hidT s1.heap H) := fun b o e => hidT_get (KX b o e) (by
      cases q : H b with
      | none => rfl
      | some u =>
        obtain ⟨rfl, _⟩ := hO b u q
        rw [hK u q] at e
        cases e)
    have hM : Mod K mg (hidT s1.heap H) := ⟨kin, nsK hns, ⟨mb, nsK hb, hbb⟩, let ⟨mc, h1, h2⟩ := hlim; ⟨mc, nsK h1, h2⟩⟩
    have e0 : Env0 P w K mg (hidT s1.heap H) callerA [] s1 H := ⟨rfl, hM, fun b o e => of_hidT e, Nat.le_of_eq (hidT_size _ _), trivial, fun b hb => (nomatch hb), hok, .of_eq hg⟩
    have sm : ∃ o, (hidT s1.heap H).get? sysModules = some o := by
      obtain ⟨mm, h⟩ := hsm
      obtain ⟨o, _, _, e, _⟩ := nsK h
      exact ⟨o, e⟩
    have st : StR ⟨K, mg⟩ H (fun _ => none) (fun _ => none) H := ⟨fun _ _ h => h, fun n k xs h => (nomatch h), fun n m a k xs k' xs' h => (nomatch h), fun _ _ => rfl, ⟨0, fun _ _ => rfl⟩⟩
    refine codeAny_mono ((F _ kin (nsK hns) sm).run callerA [] s1 H ⟨[.ref a], []⟩ [.ref a] [.ref a] _ H _ _ _ _ (fun v _ => v = .bl true) (fun _ _ _ => False) hr rfl e0 (hbind s1 (.ref a)) (.cons rfl .nil) st (repL_script hS) hsp
      (fun F' ρ' κ' H' d v e S r q => by subst q; cases r; rfl) (fun _ _ _ _ _ _ _ _ _ _ _ q => q.elim)) fun r s' h => ?_
    cases r with
    | error e =>
      obtain ⟨_, _, _, _, _, _, _, _, _, _, _, _, z⟩ := h
      exact z.elim
    | ok fl =>
      cases fl with
      | next => exact h.elim
      | brk => exact h.elim
      | cont => exact h.elim
      | ret u =>
        obtain ⟨v, H', os, bare, un, hok', r', q⟩ := h
        have q' : v = .bl true := q
        subst q'
        obtain rfl : u = Value.bool true := r'
        refine ⟨rfl, OldK.of_keep fun b o e => ?_, os, bare⟩
        cases q : H b with
        | none => exact un.keep b o e q (by intro z; exact (nomatch z)) (by simp)
        | some u =>
          obtain ⟨rfl, ob, xs, rfl, _⟩ := hO b u q
          have z2 := un.frzs b ob _ q
          obtain ⟨e1, _⟩ := hok b _ q
          obtain ⟨e2, _⟩ := hok' b _ z2
          rw [e] at e1
          cases e1
          exact e2
  cases hk : K.lookup a with
  | some o =>
    have e := KX a o hk
    rw [ha] at e
    cases e
    exact go (fun _ => none) (fun b u z => (nomatch z)) (.inr ⟨_, vs.toArray, _, hk, rfl, rfl, rfl, by rw [List.size_toArray, lenV]; exact hl, by simpa using rv⟩) (fun b u z => (nomatch z)) fun u z => (nomatch z)
  | none =>
    refine go (fun b => if b = a then some (.frz { cls := .type "list", data := .seq vs.toArray } (.lst (ns.map V.int))) else none) (fun b u z => ?_) (.inl (.inr ⟨{ cls := .type "list", data := .seq vs.toArray }, if_pos rfl⟩)) (fun b u z => ?_) fun _ _ => hk
    · by_cases hb : b = a
      · have z' := (if_pos hb).symm.trans z
        cases z'
        exact ⟨hb, _, _, rfl, ha⟩
      · have z' := (if_neg hb).symm.trans z
        cases z'
    · by_cases hb : b = a
      · have z' := (if_pos hb).symm.trans z
        cases z'
        subst hb
        exact ⟨ha, by rw [List.length_map]; exact hl, vs, _, rv, ha⟩
      · have z' := (if_neg hb).symm.trans z
        cases z'
theorem seer_sys {h : Heap} (x : h.NoSeer) : ∃ mm, h.Ns sysModules mm := let ⟨mm, e, _⟩ := x.mods; ⟨mm, e⟩
theorem walkD {l : PySem.W.OpenLaw} {n k : Nat} {q : Program} {loose : List Str} {XP : (Str → Option Value) → Heap → Prop} {YP : World → Heap → Prop} {d : DefRec} {K : Params → PySem.W.Frag} {sp : DSp} {x : Str}
    (hn : l.most = some n) (hn2 : n ≤ sizeLine) (hdf : d.params.defaults = []) (hr : Room k callerA) (himp : importsNone q = true) (hY : ∀ (w : World) (h : Heap), YP w h → (K w.params).In h)
    (F : ∀ (w : World) (mg : Str → Option Value) (fa : Addr) (h : Heap), (K w.params).In h → h.Ns mainGlobals mg → mg d.name = some (.ref fa) →
      ∃ fd : FuncData, (∀ (s : Shared) (u : Value), BindsTo s fd ⟨[u], []⟩ [(x, u)]) ∧
        ∀ base : Heap, (K w.params).In base → base.Ns mainGlobals mg → (∃ o, base.get? sysModules = some o) → FnG l.prog w (K w.params) mg base k fa fd [x] sp)
    (hsp : ∀ ns : List Int, ns.length ≤ n → sp [.node .klst (ns.map D.int)] (fun _ => none) (fun _ _ _ => False) (fun d _ => d = .bl true)) :
    PySem.W.WalkO q loose XP YP l.row.toRowW d [] (fun f vs => PySem.call f vs) := by
  refine Att.attach_call hn hdf fun w s0 s1 mg mb fa o pm cd doc a vs ns G Y ho hd hcd hmg hobj hints hlen hg => ?_
  have KX := hY w _ Y
  obtain ⟨fd, hb, hF⟩ := F w mg fa _ KX G.T.g hmg
  exact law_end KX G.T.g G.T.b G.T.builtins G.T.nolimit (seer_sys (G.T.seer himp)) hg hobj hints (Nat.le_trans hlen hn2) hr hF hb (hsp ns hlen)
end DL

/-! DL: isinstance, methods of texts and lists, own exceptions made and raised. -/
namespace DL
open PySem PySem.Spec PyProof.Rows L2

/-! ### types -/
/-- a thing's type: built-in, a class of objects, a class of exceptions -/
inductive TyK where
  | b (n : String)
  | o (c : Str)
  | e (c : Str)
  deriving DecidableEq
/-- a class asked for: built-in, own -/
inductive CK where
  | b (n : String)
  | c (c : Str)
  deriving DecidableEq
def kdTy : Kd → Option TyK
  | .lst => some (.b "list")
  | .klst => some (.b "list")
  | .tup => some (.b "tuple")
  | .dct _ => some (.b "dict")
  | .obj c _ => some (.o c)
  | .exc c _ => some (.e c)
  | .cau .. => none
def tyK (x : D) (κ : Kap) : Option TyK := match x with
  | .non => some (.b "NoneType")
  | .bl _ => some (.b "bool")
  | .int _ => some (.b "int")
  | .str _ => some (.b "str")
  | x => (view x κ).bind fun p => kdTy p.1
def clsK : D → Option CK
  | .ty n => some (.b n)
  | .glb c => some (.c c)
  | _ => none
def TyVal (mg : Str → Option Value) : TyK → Value → Prop
  | .b n, v => v = .type n
  | .o c, v => ∃ ca, mg c = some (.ref ca) ∧ v = .ref ca
  | .e c, v => ∃ ca, mg c = some (.ref ca) ∧ v = .ref ca
def CkVal (mg : Str → Option Value) : CK → Value → Prop
  | .b n, v => v = .type n
  | .c c, v => ∃ ca, mg c = some (.ref ca) ∧ v = .ref ca
/-- what the written part says of an instance's class, for isinstance -/
structure InsT (K : PySem.W.Frag) (C : Addr) : Prop where
  cl : Cls K C
  ha : PySem.W.findIn K (.ref C) "__class__" = some (some (.builtin "object.__class__"))
  hn : PySem.W.specialIn K (.builtin "object.__class__") "__get__" = some (some (.builtin "getset_descriptor.__get__"))
  ht : PySem.W.takesIn K (.builtin "object.__class__") = some true
  hm : PySem.W.mroIn K C (.type "object") = some true
abbrev KTab := TyK → CK → Option Bool
/-- a table of answers of isinstance, told rightly -/
structure KitT (K : PySem.W.Frag) (mg : Str → Option Value) (kt : KTab) : Prop where
  ok : ∀ t u b, kt t u = some b → ∀ tv uv, TyVal mg t tv → CkVal mg u uv → PySem.W.kitOne K tv uv = some b
  obj : ∀ c u b, kt (.o c) u = some b → ∀ ca, mg c = some (.ref ca) → InsT K ca
  exc : ∀ c u b, kt (.e c) u = some b → ∀ ca, mg c = some (.ref ca) → L2.ExcC K ca
def ktAny (kt : KTab) (t : TyK) : List D → Option Bool
  | [] => some false
  | d :: ds => match clsK d with
    | none => none
    | some u => match kt t u with
      | some true => some true
      | some false => ktAny kt t ds
      | none => none
def fIsi (kt : KTab) : DN := fun xs κ Q => match xs with
  | [x, .node .tup (c :: cs)] => ∃ t b, tyK x κ = some t ∧ ktAny kt t (c :: cs) = some b ∧ Q (.bl b) κ
  | [x, .ty n] => ∃ t b, tyK x κ = some t ∧ kt t (.b n) = some b ∧ Q (.bl b) κ
  | [x, .glb c] => ∃ t b, tyK x κ = some t ∧ kt t (.c c) = some b ∧ Q (.bl b) κ
  | _ => False
def rIsiD (C : Ctx) (kt : KTab) : List V → Hp → VK → Prop := fun vs H Q => ∃ F ρ κ xs QD, StR C F ρ κ H ∧ RepL C F ρ xs vs ∧ fIsi kt xs κ QD ∧ Post C F ρ QD Q
theorem sim_isi {C : Ctx} {kt : KTab} : SimN C (fIsi kt) (rIsiD C kt) := fun F ρ κ H xs vs QD Q S r h P => ⟨F, ρ, κ, xs, QD, S, r, h, P⟩
section
variable {X : Cx} {W : WX} {k : Nat} {kt : KTab} {pins : List (Addr × Obj)} {σ : L2.St} {H : Hp} {s : Shared} {F : Hp} {ρ : Loc0} {κ : Kap}
theorem excK {K : PySem.W.Frag} {ca a : Addr} {o : Obj} {od : Option Obj} (E : L2.ExcC K ca) : PySem.W.KitX K (.ref a) (.ref ca) (fun h => PySem.W.InstAt h a o ca od) :=
  PySem.W.kitx_exc (by obtain ⟨cd, h, _⟩ := PySem.W.any_some E.hd; rw [h]; rfl) E.hg E.hk E.hs E.ha E.hn E.ht E.hm
/-- what isinstance wants to know of a value -/
theorem kitD (T : KitT X.K X.mg kt) (I : L2.Inv X pins σ H s) (S : StR (CtxOf X) F ρ κ H) {x : D} {v : V} {u : Value} {t : TyK} (r : Rep (CtxOf X) F ρ x v) (rv : RelV v u) (ht : tyK x κ = some t) (hk : ∃ w b, kt t w = some b) :
    ∃ tv P, TyVal X.mg t tv ∧ PySem.W.KitX X.K u tv P ∧ P s.heap ∧ u ≠ .builtin "__main__.__loader__#opaque" := by
  have base : ∀ {tv : Value}, TyX X.K H v tv → TyVal X.mg t tv → ∃ tv P, TyVal X.mg t tv ∧ PySem.W.KitX X.K u tv P ∧ P s.heap ∧ u ≠ .builtin "__main__.__loader__#opaque" := fun {tv} tx h => by
    obtain ⟨P, Z, p, hx⟩ := kit_of I rv tx
    exact ⟨tv, P, h, Z, p, hx⟩
  have key : (view x κ).bind (fun p => kdTy p.1) = some t → ∃ tv P, TyVal X.mg t tv ∧ PySem.W.KitX X.K u tv P ∧ P s.heap ∧ u ≠ .builtin "__main__.__loader__#opaque" := by
    intro h
    cases ev : view x κ with
    | none => rw [ev] at h; cases h
    | some p =>
      obtain ⟨kd, xs⟩ := p
      rw [ev] at h
      obtain ⟨a, vs, rfl, hk', rl⟩ := view_at S r ev
      cases kd with
      | lst => cases h; exact base (.base (.lst hk')) rfl
      | klst =>
        cases h
        rcases hk' with (h1 | ⟨o, h1⟩) | ⟨o, its, n, h1, h2, _⟩
        · exact base (.base (.lst h1)) rfl
        · exact base (.base (.frz h1)) rfl
        · exact base (.kList h1 h2) rfl
      | tup =>
        cases h
        rcases hk' with (h1 | ⟨o, h1⟩) | ⟨o, its, n, h1, h2, _⟩
        · exact base (.base (.tup h1)) rfl
        · exact base (.fTuple h1) rfl
        · exact base (.kTuple h1 h2) rfl
      | dct ks =>
        cases h
        obtain ⟨kvs, h1, _⟩ := hk'
        exact base (.base (.dK h1)) rfl
      | cau c a1 C1 dd => cases h
      | obj c ns =>
        cases h
        obtain ⟨ca, dx, fs, h0, h1, _⟩ := hk'
        obtain ⟨w, b, hw⟩ := hk
        have q := T.obj c w b hw ca h0
        exact base (.base (.ins h1 q.cl q.ha q.hn q.ht q.hm)) ⟨ca, h0, rfl⟩
      | exc c ns =>
        cases h
        obtain ⟨ca, h0, h1⟩ := hk'
        obtain ⟨w, b, hw⟩ := hk
        have q := T.exc c w b hw ca h0
        cases rv
        rcases h1 with ⟨_, _, h1⟩ | ⟨d, fs, h1, h2, _⟩
        · obtain ⟨t1, ho⟩ := exo_at I.hok h1
          exact ⟨.ref ca, _, ⟨ca, h0, rfl⟩, excK (od := none) q, ⟨ho, rfl, rfl, trivial⟩, fun z => nomatch z⟩
        · obtain ⟨t1, ho⟩ := exo_at I.hok h1
          obtain ⟨mA, ⟨od, _, _, hd, _⟩, _⟩ := exd_at I.hok h2
          exact ⟨.ref ca, _, ⟨ca, h0, rfl⟩, excK (od := some od) q, ⟨ho, rfl, rfl, hd⟩, fun z => nomatch z⟩
  cases x with
  | non => cases r; cases ht; exact base (.base .non) rfl
  | bl b => cases r; cases ht; exact base (.base (.bl b)) rfl
  | int i => cases r; cases ht; exact base (.base (.int i)) rfl
  | str y => cases r; cases ht; exact base (.base (.str y)) rfl
  | _ => exact key ht
theorem ktAny_first {t : TyK} {c : D} {cs : List D} {b : Bool} (h : ktAny kt t (c :: cs) = some b) : ∃ w b, kt t w = some b := by
  unfold ktAny at h
  cases e : clsK c with
  | none => rw [e] at h; cases h
  | some u =>
    rw [e] at h
    cases e2 : kt t u with
    | none => simp only [e2] at h; cases h
    | some b' => exact ⟨u, b', e2⟩
theorem clsK_val {c : D} {v : V} {w : Value} {u : CK} (r : Rep (CtxOf X) F ρ c v) (rv : RelV v w) (e : clsK c = some u) : CkVal X.mg u w := by
  cases c <;> first | (cases e; done) | skip
  · cases e; cases r; exact rv
  · cases e
    cases r with
    | glb h => exact ⟨_, h, rv⟩
theorem kitAny_of (T : KitT X.K X.mg kt) {t : TyK} {tv : Value} (htv : TyVal X.mg t tv) : ∀ {cs : List D} {vs : List V} {us : List Value} {b : Bool}, RepL (CtxOf X) F ρ cs vs → Vals vs us → ktAny kt t cs = some b → PySem.W.kitAny X.K tv us = some b
  | _, _, _, _, .nil, .nil, h => by cases h; rfl
  | _, _, _, b, .cons (d := d) r rs, .cons rv rvs, h => by
    unfold ktAny at h
    cases e : clsK d with
    | none => rw [e] at h; cases h
    | some u =>
      rw [e] at h
      cases e2 : kt t u with
      | none => simp only [e2] at h; cases h
      | some b' =>
        simp only [e2] at h
        have q := T.ok t u b' e2 tv _ htv (clsK_val r rv e)
        cases b' with
        | true => cases h; exact kitAny_cons q (fun z => nomatch z) fun _ => rfl
        | false => exact kitAny_cons q (fun _ => kitAny_of T htv rs rvs h) fun z => nomatch z
theorem call_isiD (T : KitT X.K X.mg kt) : CallR X (.builtin "isinstance") (rIsiD (CtxOf X) kt) := by
  intro pins s σ H vs us Q I rv ⟨F, ρ, κ, xs, QD, S, r, h, P⟩
  have one : ∀ {x c : D} {t : TyK} {u : CK} {b : Bool}, RepL (CtxOf X) F ρ [x, c] vs → tyK x κ = some t → clsK c = some u → kt t u = some b → QD (.bl b) κ → wpAny (model X.prog X.w) X.A (call (.builtin "isinstance") us) (EP X pins σ Q) X.xe s := by
    intro x c t u b r h1 h2 h3 q
    obtain ⟨v, w, rfl, rx, rc⟩ := repL2 r
    obtain ⟨u1, u2, rfl, r1, r2⟩ := vals2 rv
    obtain ⟨tv, Pr, htv, Z, p, hx⟩ := kitD T I S rx r1 h1 ⟨u, b, h3⟩
    exact PySem.W.kia_one Z I.kIn p (T.ok t u b h3 tv u2 htv (clsK_val rc r2 h2)) hx fun tk => ⟨.bl b, H, I.tok tk, rfl, P _ _ _ _ _ _ (Ext.refl _ _) S (.bl b) q⟩
  unfold fIsi at h
  split at h
  · rename_i x c cs
    obtain ⟨t, b, h1, h2, q⟩ := h
    obtain ⟨v, w, rfl, rx, rc⟩ := repL2 r
    obtain ⟨u1, u2, rfl, r1, r2⟩ := vals2 rv
    obtain ⟨a, vs, rfl, hk, rl⟩ := view_at (k := .tup) (xs := c :: cs) S rc rfl
    cases r2
    obtain ⟨its, rvs, ⟨o, ho, hc, n, hd⟩, _⟩ := I.tuple hk
    obtain ⟨tv, Pr, htv, Z, p, hx⟩ := kitD T I S rx r1 h1 (ktAny_first h2)
    obtain ⟨oc, od, dt, sl⟩ := o
    simp only at hc hd
    subst hc hd
    exact PySem.W.kia_tup Z I.kIn p ho (kitAny_of T htv rl rvs h2) hx fun tk => ⟨.bl b, H, I.tok tk, rfl, P _ _ _ _ _ _ (Ext.refl _ _) S (.bl b) q⟩
  · obtain ⟨t, b, h1, h2, q⟩ := h
    exact one r h1 rfl h2 q
  · obtain ⟨t, b, h1, h2, q⟩ := h
    exact one r h1 rfl h2 q
  · exact h.elim
end

/-! ### methods of texts -/
def dM1 (f : D → D → Kap → DQ → Prop) (a b : DE) : DE := fun δ κ X Q => a δ κ X fun x κ1 => (∃ y, x = .str y) ∧ b δ κ1 X fun z κ2 => f x z κ2 Q
def dM0 (f : D → Kap → DQ → Prop) (a : DE) : DE := fun δ κ X Q => a δ κ X fun x κ1 => (∃ y, x = .str y) ∧ f x κ1 Q
theorem lift_m1 {C : Ctx} {W : WX} {f : D → D → Kap → DQ → Prop} {r : V → List V → Hp → VK → Prop} {a b : DE} (hs : Sim2 C f (fun x y H Q => r x [y] H Q)) {σ : L2.St} {H : Hp} {Q : VK} (h : liftE C W (dM1 f a b) σ H Q) : tM1 r (liftE C W a) (liftE C W b) σ H Q := by
  obtain ⟨F, ρ, κ, δ, XD, QD, S, R, h, P, PX⟩ := h
  refine ⟨F, ρ, κ, δ, XD, _, S, R, h, fun F1 ρ1 κ1 H1 x v e1 S1 R1 ⟨⟨y, hy⟩, h1⟩ => ?_, PX⟩
  subst hy
  cases R1
  exact ⟨⟨y, rfl⟩, F1, ρ1, κ1, δ, XD, _, S1, R.ext e1, h1, fun F2 ρ2 κ2 H2 z u e2 S2 R2 h2 => hs _ _ _ _ _ _ _ _ _ _ S2 (.str y) R2 h2 (P.ext (e1.trans e2)), PX.ext e1⟩
theorem lift_m0 {C : Ctx} {W : WX} {f : D → Kap → DQ → Prop} {r : V → List V → Hp → VK → Prop} {a : DE} (hs : Sim1 C f (fun x H Q => r x [] H Q)) {σ : L2.St} {H : Hp} {Q : VK} (h : liftE C W (dM0 f a) σ H Q) : tM0 r (liftE C W a) σ H Q := by
  obtain ⟨F, ρ, κ, δ, XD, QD, S, R, h, P, PX⟩ := h
  refine ⟨F, ρ, κ, δ, XD, _, S, R, h, fun F1 ρ1 κ1 H1 x v e1 S1 R1 ⟨⟨y, hy⟩, h1⟩ => ?_, PX⟩
  subst hy
  cases R1
  exact ⟨⟨y, rfl⟩, hs _ _ _ _ _ _ _ _ S1 (.str y) h1 (P.ext e1)⟩
def fJoin : D → D → Kap → DQ → Prop := fun x y κ Q => match x with
  | .str a => ∃ ys : List Str, (view y κ = some (.lst, ys.map D.str) ∨ view y κ = some (.tup, ys.map D.str)) ∧ (ys.map (·.length)).sum + ys.length * a.length ≤ 16777216 ∧ Q (.str (Txt.join a ys)) κ
  | _ => False
section
variable {X : Cx} {W : WX} {e1 e2 : Expr} {a b : DE} {apos pos : Pos}
theorem sim_join {C : Ctx} : Sim2 C fJoin (fun x y H Q => ∃ a p, ∃ ys : List Str, x = .str a ∧ [y] = [.ref p] ∧ (SqL C.K H p (ys.map V.str) ∨ SqT C.K H p (ys.map V.str)) ∧ (ys.map (·.length)).sum + ys.length * a.length ≤ 16777216 ∧ Q (.str (Txt.join a ys)) H) := by
  intro F ρ κ H x y v u QD Q S rx ry h P
  cases x <;> first | exact h.elim | skip
  cases rx
  obtain ⟨ys, h1, h2, h3⟩ := h
  rcases h1 with h1 | h1
  · obtain ⟨p, vs, rfl, hk, rl⟩ := view_at S ry h1
    have e := rl.strs
    subst e
    exact ⟨_, p, ys, rfl, rfl, .inl (SqL.of hk), h2, P _ _ _ _ _ _ (Ext.refl _ _) S (.str _) h3⟩
  · obtain ⟨p, vs, rfl, hk, rl⟩ := view_at S ry h1
    have e := rl.strs
    subst e
    exact ⟨_, p, ys, rfl, rfl, .inr hk, h2, P _ _ _ _ _ _ (Ext.refl _ _) S (.str _) h3⟩
theorem pd_join (ho : PED X W e1 a) (he : PED X W e2 b) (hs : starEach [e2] X.env = [(false, eval e2 X.env)] := by rfl) (hbase : attributeBase e1 "join" X.env (eval e1 X.env) = eval e1 X.env := by rfl) (hline : (apos.endLine == pos.line) = true := by rfl) :
    PED X W (.Call (.Attribute e1 "join" apos) [e2] [] pos) (dM1 fJoin a b) := pe_weak (pe_join ho he hs hbase hline) fun _ _ _ => lift_m1 sim_join
end

/-! ### methods of lists -/
def isSeq (T : String) (x : D) (κ : Kap) : Prop := match T with
  | "list" => ∃ xs, view x κ = some (.lst, xs)
  | _ => False
def dBM (T : String) (f : D1N) (a : DE) (as : DA) : DE := fun δ κ X Q => a δ κ X fun x κ1 => isSeq T x κ1 ∧ as δ κ1 X fun xs κ2 => f x xs κ2 Q
theorem isSeq_at {K : PySem.W.Frag} {mg : Str → Option Value} {F : Hp} {ρ : Loc0} {κ : Kap} {H : Hp} {T : String} {x : D} {v : V} (S : StR ⟨K, mg⟩ F ρ κ H) (r : Rep ⟨K, mg⟩ F ρ x v) (h : isSeq T x κ) : tyV K T v H := by
  unfold isSeq at h
  split at h
  · obtain ⟨xs, h⟩ := h
    obtain ⟨a, vs, rfl, hk, _⟩ := view_at S r h
    exact .inl ⟨rfl, vs, SqL.of hk⟩
  · exact h.elim
theorem lift_bm {K : PySem.W.Frag} {mg : Str → Option Value} {W : WX} {T : String} {f : D1N} {r : V → List V → Hp → VK → Prop} {a : DE} {as : DA} (hs : Sim1N ⟨K, mg⟩ f r) {σ : L2.St} {H : Hp} {Q : VK} (h : liftE ⟨K, mg⟩ W (dBM T f a as) σ H Q) : tBM K T r (liftE ⟨K, mg⟩ W a) (liftA ⟨K, mg⟩ W as) σ H Q := by
  obtain ⟨F, ρ, κ, δ, XD, QD, S, R, h, P, PX⟩ := h
  exact ⟨F, ρ, κ, δ, XD, _, S, R, h, fun F1 ρ1 κ1 H1 x v e1 S1 R1 ⟨h0, h1⟩ => ⟨isSeq_at S1 R1 h0, F1, ρ1, κ1, δ, XD, _, S1, R.ext e1, h1, fun F2 ρ2 κ2 H2 ys us e2 S2 R2 h2 => hs _ _ _ _ _ _ _ _ _ _ S2 (R1.ext e2) R2 h2 (P.ext (e1.trans e2)), PX.ext e1⟩, PX⟩
/-- a cell's list, changed -/
theorem cell_lst {C : Ctx} {F : Hp} {ρ : Loc0} {κ : Kap} {H : Hp} {n : Nat} {v : V} {xs : List D} (S : StR C F ρ κ H) (r : Rep C F ρ (.cell n) v) (h : κ n = some (.live .lst xs)) :
    ∃ a vs, v = .ref a ∧ ρ n = some a ∧ H a = some (.lst vs) ∧ RepL C F ρ xs vs ∧ ∀ ys ws, RepL C F ρ ys ws → StR C F ρ (kset κ n (.live .lst ys)) (upd H a (.lst ws)) := by
  obtain ⟨a, vs, rfl, h1, h2, h3⟩ := cell_at S r h
  exact ⟨a, vs, rfl, h1, h2, h3, fun ys ws r => S.write (k' := .lst) h h1 (fun _ q => q) r⟩
def fAppend : D1N := fun x ds κ Q => match x, ds with
  | .cell n, [d] => ∃ xs, κ n = some (.live .lst xs) ∧ xs.length < sizeLine ∧ Q .non (kset κ n (.live .lst (xs ++ [d])))
  | _, _ => False
theorem sim_append {C : Ctx} : Sim1N C fAppend rAppend := by
  intro F ρ κ H x v ds vs QD Q S rx rd h P
  match x, ds, h with
  | .cell n, [d], ⟨xs, h1, h2, h3⟩ =>
    obtain ⟨a, ws, rfl, h4, h5, h6, h7⟩ := cell_lst S rx h1
    obtain ⟨w, rfl, rw'⟩ := repL1 rd
    exact ⟨a, ws, w, rfl, rfl, h5, by rw [← h6.length]; exact h2, P _ _ _ _ _ _ (Ext.refl _ _) (h7 _ _ (h6.append (.cons rw' .nil))) .non h3⟩
section
variable {X : Cx} {W : WX} {o e : Expr} {es : List Expr} {a : DE} {as : DA} {apos cpos : Pos}
theorem pd_append (ho : PED X W o a) (ha : PAD X W (e :: es) as) (hbase : attributeBase o "append" X.env (eval o X.env) = eval o X.env := by rfl)
    (hfew : ((backTo cpos (starEach (e :: es) X.env)).all (fun x => !x.1) && (backToKw cpos (keywordEach [] X.env)).all (fun x => x.1.isSome) && decide ((e :: es).length + ([] : List Keyword).length + (if ([] : List Keyword).isEmpty then 0 else 1) < 30)) = true := by rfl)
    (hline : (apos.endLine == cpos.line) = true := by rfl) (hs : starEach (e :: es) X.env = (false, eval e X.env) :: starEach es X.env := by rfl) (hplain : (backTo cpos (starEach es X.env)).any (·.1) = false := by rfl) :
    PED X W (.Call (.Attribute o "append" apos) (e :: es) [] cpos) (dBM "list" fAppend a as) :=
  pe_weak (pe_bm PySem.F.plainAttrs_list PySem.F.slot_list_append PySem.F.type_list_append mt_append ho ha hbase hfew hline hs hplain) fun _ _ _ => lift_bm sim_append
end
end DL

/-! DL: own exceptions over ValueError, made and raised. -/
namespace DL
open PySem PySem.Spec PyProof.Rows L2

/-- an own class F over ValueError without an __init__ of its own: F.__init__ is ValueError's -/
structure BaseC (K : PySem.W.Frag) (mg : Str → Option Value) (x : Str) (ca : Addr) : Prop where
  m : mg x = some (.ref ca)
  ga : PySem.W.specialIn K (.ref ca) "__getattribute__" = some (some (.builtin "type.__getattribute__"))
  rd : PySem.W.readsIn K ca (.type "type") = true
  fi : PySem.W.findCls K (.ref ca) (.type "type") "__init__" = some (.val (.builtin "ValueError.__init__"))
section
variable {X : Cx} {e : Expr} {es : List Expr} {ta : TA} {x : Str} {ca : Addr} {p1 p2 pos : Pos}
theorem pe_finit {pl : Sem Bool} (B : BaseC X.K X.mg x ca) (ha : PA X (e :: es) ta) (hg : Gl X x := by rfl) (hdb : (x == ("__debug__" : Str)) = false := by decide)
    (hc : eval (.Call (.Attribute (.Name x p1) "__init__" p2) (e :: es) [] pos) X.env = (do
      let ov ← eval (.Name x p1) X.env
      standAt p2.atName
      let (f, first) ← holding [ov] (getMethod ov "__init__" pl)
      callWith pos f first (backTo pos (starEach (e :: es) X.env)) (backToKw pos (keywordEach [] X.env))) := by rfl)
    (he : starEach (e :: es) X.env = (false, eval e X.env) :: starEach es X.env := by rfl) (hpl : (backTo pos (starEach es X.env)).any (·.1) = false := by rfl) :
    PE X (.Call (.Attribute (.Name x p1) "__init__" p2) (e :: es) [] pos) (tVeI X.K ta) := by
  refine ⟨fun pins s σ H Q I h => PySem.W.methodCall_KW (ld_glob I hg B.m ?_ hdb) hc⟩
  refine PySem.W.method_cls I.kIn B.ga (PySem.W.cls_value I.kIn B.rd B.fi (by decide +kernel) ?_)
  refine PyProof.Rows.callWith_method1 (thn (ha.run pos pins _ σ H _ (I.tok _) h) fun us s1 ⟨vs, H1, I1, r1, a, C, ws, ev, hl, T, ea, q⟩ => ?_) he hpl
  subst ev
  cases r1 with
  | @cons _ u0 _ ur ra rw' =>
    cases (show u0 = Value.ref a from ra)
    exact oinit_ok T I1 ea (by rw [← Paired.length rw', sizeLine_eq]; omega) fun s' J => ⟨.non, H1, J, rfl, q⟩
end
/-- an __init__ that lays one field -/
def spEx1 (K : PySem.W.Frag) (f : Str) : Sp := fun vs H Q _ => ∃ (a C : Addr) (y : V), vs = [.ref a, y] ∧ OexC K C ∧ PySem.W.findIn K (.ref C) f = some none ∧ H a = some (exo a C none) ∧ ∀ dx, H dx = none → dx ≠ a → Q .non (upd (upd H dx (exd dx [(f, y)])) a (exo a C (some dx)))
/-- .. two -/
def spEx2 (K : PySem.W.Frag) (f g : Str) : Sp := fun vs H Q _ => ∃ (a C : Addr) (y z : V), vs = [.ref a, y, z] ∧ OexC K C ∧ PySem.W.findIn K (.ref C) f = some none ∧ PySem.W.findIn K (.ref C) g = some none ∧ H a = some (exo a C none) ∧
  ∀ dx, H dx = none → dx ≠ a → Q .non (upd (upd H dx (exd dx [(g, z), (f, y)])) a (exo a C (some dx)))
/-- .. none -/
def spEx0 (K : PySem.W.Frag) : Sp := fun vs H Q _ => ∃ (a C : Addr), vs = [.ref a] ∧ OexC K C ∧ H a = some (exo a C none) ∧ Q .non H
section
variable {P : Program} {w : World} {K : PySem.W.Frag} {mg : Str → Option Value} {base : Heap}
/-- the first statement of such an __init__, F.__init__(self, '..') -/
abbrev InitHead (P : Program) (w : World) (K : PySem.W.Frag) (mg : Str → Option Value) (base : Heap) (N : List Str) (qual : Str) (st s1 : Stmt) (f : Addr) : Prop :=
  ∀ (cdv : Value) (A : Around) (outer : List Env) (s : Shared) (H : Hp) (E : XK), ∃ t : Str, PS (cxOf CX0 P w K mg base N qual (defScope st) f cdv A outer s H E).nox s1 (tDrop (tVeI K (tCons (tVar 0) (tCons (tC (.str t)) tNil))))
theorem ex1_ok {qual : Str} {st s1 : Stmt} {f : Addr} {fd : FuncData} {par fl : Str} {p7 p8 p9 p10 : Pos} (F : Fun K "__init__" qual st f fd) (hi : InitHead P w K mg base ["self", par] qual st s1 f)
    (hb : defBody st = [s1, .Assign [.Attribute (.Name "self" p7) fl p8] (.Name par p9) p10])
    (S : FnScope ["self", par] ["self", par] (defScope st)) (h2 : (defScope st).names.lookup (Str.ofString "self") = some NameKind.local) (h3 : (defScope st).names.lookup par = some NameKind.local)
    (hdp : (par == ("__debug__" : Str)) = false) (hdc : (par == ("__classdict__" : Str)) = false) :
    FnOk P w K mg base CX0 1 f fd ["self", par] (spEx1 K fl) := by
  refine F.ok S (fun vs H Q E h => ?_) (fun cdv A outer s H vs Q E hr h => ?_)
  · obtain ⟨a, C, y, rfl, _⟩ := h; rfl
  · obtain ⟨a, C, y, rfl, hC, hf, ha, q⟩ := h
    rw [hb]
    obtain ⟨t, ht⟩ := hi cdv A outer s H E
    refine ⟨_, pss_cons ht (pss_one (ps_ost (pe_var (i := 0) rfl (.inl h2)) (pe_var (i := 1) rfl (.inl h3) hdp hdc))), ?_⟩
    refine ⟨_, rfl, a, C, _, rfl, (by simp), hC, ha, ?_⟩
    exact ⟨_, rfl, _, rfl, a, C, rfl, hC, hf, .inl ⟨ha, fun dx h1 h2 => q dx h1 h2⟩⟩
theorem ex2_ok {qual : Str} {st s1 : Stmt} {f : Addr} {fd : FuncData} {par par2 fl fl2 : Str} {p7 p8 p9 p10 p11 p12 p13 p14 : Pos} (F : Fun K "__init__" qual st f fd) (hi : InitHead P w K mg base ["self", par, par2] qual st s1 f)
    (hb : defBody st = [s1, .Assign [.Attribute (.Name "self" p7) fl p8] (.Name par p9) p10, .Assign [.Attribute (.Name "self" p11) fl2 p12] (.Name par2 p13) p14])
    (S : FnScope ["self", par, par2] ["self", par, par2] (defScope st)) (h2 : (defScope st).names.lookup (Str.ofString "self") = some NameKind.local) (h3 : (defScope st).names.lookup par = some NameKind.local) (h4 : (defScope st).names.lookup par2 = some NameKind.local)
    (hdp : (par == ("__debug__" : Str)) = false) (hdc : (par == ("__classdict__" : Str)) = false) (hdp2 : (par2 == ("__debug__" : Str)) = false) (hdc2 : (par2 == ("__classdict__" : Str)) = false) :
    FnOk P w K mg base CX0 1 f fd ["self", par, par2] (spEx2 K fl fl2) := by
  refine F.ok S (fun vs H Q E h => ?_) (fun cdv A outer s H vs Q E hr h => ?_)
  · obtain ⟨a, C, y, z, rfl, _⟩ := h; rfl
  · obtain ⟨a, C, y, z, rfl, hC, hf, hf2, ha, q⟩ := h
    rw [hb]
    obtain ⟨t, ht⟩ := hi cdv A outer s H E
    refine ⟨_, pss_cons ht (pss_cons (ps_ost (pe_var (i := 0) rfl (.inl h2)) (pe_var (i := 1) rfl (.inl h3) hdp hdc)) (pss_one (ps_ost (pe_var (i := 0) rfl (.inl h2)) (pe_var (i := 2) rfl (.inl h4) hdp2 hdc2)))), ?_⟩
    refine ⟨_, rfl, a, C, _, rfl, (by simp), hC, ha, ?_⟩
    refine ⟨_, rfl, _, rfl, a, C, rfl, hC, hf, .inl ⟨ha, fun dx h1 h2 => ?_⟩⟩
    refine ⟨_, rfl, _, rfl, a, C, rfl, hC, hf2, .inr ⟨dx, _, upd_same, (by rw [upd_ne h2]; exact upd_same), by simp, ?_⟩⟩
    have e : upd (upd (upd H dx (exd dx [(fl, y)])) a (exo a C (some dx))) dx (exd dx [(fl2, z), (fl, y)]) = upd (upd H dx (exd dx [(fl2, z), (fl, y)])) a (exo a C (some dx)) := by
      funext b'
      unfold upd
      by_cases e1 : b' = dx
      · subst e1; rw [if_pos rfl, if_neg h2, if_pos rfl]
      · rw [if_neg e1, if_neg e1]
        by_cases e2 : b' = a
        · rw [if_pos e2, if_pos e2]
        · rw [if_neg e2, if_neg e2, if_neg e1]
    show Q .non _
    rw [e]
    exact q dx h1 h2
end

/-! ### made as a value -/
/-- an own exception class c: its fields (as they lie, the last one first), how it is made -/
structure ExcM (P : Program) (w : World) (K : PySem.W.Frag) (mg : Str → Option Value) (base : Heap) (c : Str) (ca fI : Addr) (fd : FuncData) (ps : List Str) (sp : Sp) : Prop where
  m : mg c = some (.ref ca)
  ox : OexC K ca
  ini : PySem.W.findIn K (.ref ca) "__init__" = some (some (.ref fI))
  ty : PySem.W.typeIn K (.ref fI) = some (.type "function")
  fn : FnOk P w K mg base CX0 1 fI fd ps sp
  bd : Binds K fd ps []
def dMk (c : Str) (ns : List Str) (as : DA) : DE := fun δ κ X Q => as δ κ X fun xs κ1 => xs.length = ns.length ∧ xs.length ≤ 100 ∧ Q (.node (.exc c ns) xs.reverse) κ1
/-- what an __init__'s promise must give -/
def ExGives (K : PySem.W.Frag) (ns : List Str) (sp : Sp) : Prop := ∀ (a C : Addr) (ys : List V) (H : Hp) (Q : VK) (E : XK), ys.length = ns.length → OexC K C → (∀ f ∈ ns, PySem.W.findIn K (.ref C) f = some none) → H a = some (exo a C none) →
  ((ns = [] → Q .non H) ∧ (ns ≠ [] → ∀ dx, H dx = none → dx ≠ a → Q .non (upd (upd H dx (exd dx (ns.zip ys.reverse))) a (exo a C (some dx))))) → sp (.ref a :: ys) H Q E
theorem exGives1 {K : PySem.W.Frag} {f : Str} : ExGives K [f] (spEx1 K f) := fun a C ys H Q E hl hC hf ha hq => by
  match ys, hl with
  | [y], _ => exact ⟨a, C, y, rfl, hC, hf f (by simp), ha, hq.2 (by simp)⟩
theorem exGives2 {K : PySem.W.Frag} {f g : Str} : ExGives K [g, f] (spEx2 K f g) := fun a C ys H Q E hl hC hf ha hq => by
  match ys, hl with
  | [y, z], _ => exact ⟨a, C, y, z, rfl, hC, hf f (by simp), hf g (by simp), ha, hq.2 (by simp)⟩
theorem exGives0 {K : PySem.W.Frag} : ExGives K [] (spEx0 K) := fun a C ys H Q E hl hC hf ha hq => by
  match ys, hl with
  | [], _ => exact ⟨a, C, rfl, hC, ha, hq.1 rfl⟩
theorem upd_drop {H : Hp} {a : Addr} {o o' : HO} : upd (upd H a o) a o' = upd H a o' := upd_upd
theorem exo_heap {H : Hp} {a dx : Addr} {o o' u : HO} (h : dx ≠ a) : upd (upd (upd H a o) dx u) a o' = upd (upd H dx u) a o' := by
  funext b
  by_cases e : b = a <;> by_cases e2 : b = dx <;> simp [upd, e, e2]
section
variable {X : Cx} {W : WX} {k : Nat} {c : Str} {ca fI : Addr} {fd : FuncData} {ps : List Str} {sp : Sp} {ns : List Str} {e : Expr} {es : List Expr} {as : DA} {p pos : Pos}
theorem zip_parts {ns : List Str} {vs : List V} (h : vs.length = ns.length) : (ns.zip vs.reverse).map (·.1) = ns ∧ (ns.zip vs.reverse).map (·.2) = vs.reverse :=
  ⟨List.map_fst_zip (by rw [List.length_reverse, h]; exact Nat.le_refl _), List.map_snd_zip (by rw [List.length_reverse, h]; exact Nat.le_refl _)⟩
theorem RepL.reverse {C : Ctx} {F : Hp} {ρ : Loc0} : ∀ {xs : List D} {vs : List V}, RepL C F ρ xs vs → RepL C F ρ xs.reverse vs.reverse
  | _, _, .nil => .nil
  | _, _, .cons h t => by
    rw [List.reverse_cons, List.reverse_cons]
    exact (RepL.reverse t).append (.cons h .nil)
theorem pd_mkExc (G : Good (k + 2) X W) (M : ExcM X.prog X.w X.K X.mg X.base c ca fI fd ps sp) (hg : ExGives X.K ns sp) (hf : ∀ f ∈ ns, PySem.W.findIn X.K (.ref ca) f = some none) (ha : PAD X W (e :: es) as) (hgl : Gl X c := by rfl) (hdb : (c == ("__debug__" : Str)) = false := by decide)
    (he : starEach (e :: es) X.env = (false, eval e X.env) :: starEach es X.env := by rfl) (hpl : (backTo pos (starEach es X.env)).any (·.1) = false := by rfl) : PED X W (.Call (.Name c p) (e :: es) [] pos) (dMk c ns as) := by
  refine ⟨fun pins s σ H Q I ⟨F, ρ, κ, δ, XD, QD, S, R, h, P, PX⟩ => ?_⟩
  obtain ⟨nm, q, N, bs, bm, sn, sub, ab, col, dd, k0, k1, k2, k3, k5, hC, hbm⟩ := M.ox.cls
  refine wpAny_Call_Name_kw (ld_glob I hgl M.m ?_ hdb)
  refine PySem.W.callWith_K (h₀ := X.base) I.ok.mod.kin M.ox.kC (thn (ha.run pos pins s σ H (fun vs H1 => ∃ F1 ρ1 κ1 xs, Ext F ρ F1 ρ1 ∧ StR (CtxOf X) F1 ρ1 κ1 H1 ∧ RepL (CtxOf X) F1 ρ1 xs vs ∧ xs.length = ns.length ∧ xs.length ≤ 100 ∧ QD (.node (.exc c ns) xs.reverse) κ1) I
    ⟨F, ρ, κ, δ, XD, _, S, R, h, fun F1 ρ1 κ1 H1 xs vs e1 S1 R1 h1 => ⟨F1, ρ1, κ1, xs, e1, S1, R1, h1⟩, PX⟩) fun us s1 ⟨vs, H1, I1, r1, F1, ρ1, κ1, xs, e1, S1, R1, hn, h100, hQ⟩ => ⟨I1.kIn, ?_⟩) he hpl
  show wpAny _ _ (call (.ref ca) us) _ _ _
  obtain ⟨hp, g, dr, tk, os⟩ := s1
  have hsz : hp.objs.size ≤ hp.objs.size + 1 := Nat.le_succ _
  have hnn : H1 (hp.objs.size + 1) = none := I1.hok.fresh hsz
  have kk : ∀ b o, hp.get? b = some o → ((hp.push (PySem.W.kdv_tup us)).push (PySem.HandSPX.excO ca hp.objs.size)).get? b = some o := fun b o e => Heap.get?_push_of_some _ (Heap.get?_push_of_some _ e)
  have hget : ((hp.push (PySem.W.kdv_tup us)).push (PySem.HandSPX.excO ca hp.objs.size)).get? (hp.objs.size + 1) = some (PySem.HandSPX.excO ca hp.objs.size) := by heap_get
  have I2 : L2.Inv X pins σ (upd H1 (hp.objs.size + 1) (exo (hp.objs.size + 1) ca none)) ⟨(hp.push (PySem.W.kdv_tup us)).push (PySem.HandSPX.excO ca hp.objs.size), g, dr, tk, os⟩ := I1.laid (t' := tk) (o := exo (hp.objs.size + 1) ca none) kk hsz (exo_ok hget)
  have lv : vs.length = ns.length := by rw [← R1.length, hn]
  have hq := hg (hp.objs.size + 1) ca vs (upd H1 (hp.objs.size + 1) (exo (hp.objs.size + 1) ca none)) (fun v H2 => v = .non ∧ Q (.ref (hp.objs.size + 1)) H2) E0 lv M.ox hf upd_same ⟨fun hnil => ⟨rfl, by
      subst hnil
      cases xs with
      | cons => simp at hn
      | nil =>
        cases R1
        obtain ⟨ex, S2⟩ := S1.laid (o := exo (hp.objs.size + 1) ca none) hnn
        exact P _ _ _ _ _ _ (e1.trans ex) S2 (.node (k := .exc c []) ⟨ca, M.m, .inl ⟨rfl, rfl, upd_same⟩⟩ .nil) hQ⟩, fun hne dx hdx hda => ⟨rfl, by
      rw [exo_heap hda]
      have hdx' : H1 dx = none := by rw [upd_ne hda] at hdx; exact hdx
      obtain ⟨z1, z2⟩ := zip_parts lv
      obtain ⟨ex, S2⟩ := S1.laid (o := exd dx (ns.zip vs.reverse)) hdx'
      obtain ⟨ex2, S3⟩ := S2.laid (p := hp.objs.size + 1) (o := exo (hp.objs.size + 1) ca (some dx)) (by rw [upd_ne hda.symm]; exact hnn)
      exact P _ _ _ _ _ _ (e1.trans (ex.trans ex2)) S3 (.node (k := .exc c ns) ⟨ca, M.m, .inr ⟨dx, _, upd_same, by rw [upd_ne hda]; exact upd_same, z1, z2⟩⟩ ((R1.ext (ex.trans ex2)).reverse)) hQ⟩⟩
  have hl : (Value.ref (hp.objs.size + 1) :: us ++ []).length = ps.length := by
    have e := M.fn.len _ _ _ _ hq
    rw [List.length_cons] at e
    rw [List.append_nil, List.length_cons, ← Paired.length r1]
    exact e
  have hbd := M.bd _ (Value.ref (hp.objs.size + 1) :: us) I2.kIn hl
  rw [List.append_nil] at hbd
  have hus : us.length ≤ sizeLine := by
    rw [← Paired.length r1, lv, ← hn, sizeLine_eq]
    omega
  refine wpAny_call (PySem.HandSPX.call_own PySem.F.excBase_ValueError (fun Y => PySem.HandSPX.refsVE_contains Y bm hbm) (I1.kIn _ _ hC) (PySem.W.looks_findIn I1.kIn M.ini) (fun self => PySem.W.bind_fn I1.kIn self M.ty) hus
    (codeAny_mono (M.fn.run _ X.stack _ _ ⟨Value.ref (hp.objs.size + 1) :: us, []⟩ (Value.ref (hp.objs.size + 1) :: us) (V.ref (hp.objs.size + 1) :: vs) _ E0 ((G.rm.mono (by omega : 2 ≤ k + 2)).make ca us []) (I2.env0.make ca us []) hbd (.cons rfl r1) hq) fun r s' hq' => ?_))
  cases r with
  | error er => exact hq'.elim
  | ok fl =>
    cases fl with
    | ret u =>
      obtain ⟨v, H', J, rv, ev, q2⟩ := I2.after (X := X) (pins := pins) (σ := σ) hq'
      subst ev
      exact ⟨rv, .ref (hp.objs.size + 1), H', J, rfl, q2⟩
    | next => exact False.elim hq'
    | brk => exact False.elim hq'
    | cont => exact False.elim hq'
end
end DL

/-! DL: displays of dicts, defs by name. -/
namespace DL
open PySem PySem.Spec PyProof.Rows L2

theorem takesN0 {X : Cx} : L2N.Takes X (fun _ _ _ _ => False) := fun _ _ ⟨_, _, _, _, _, _, _, _, _, _, _, _, _, _, _, _, z⟩ => z.elim
theorem Good.blk {k : Nat} {X : Cx} {W : WX} (G : Good k X W) {s : Shared} {H : Hp} {scope : Scope} {cenv : Env} {fp : List Addr} : Good k (X.blk s H scope cenv fp) WF :=
  ⟨takesN0, PassesOwn.never, G.rm, G.gd, G.sm, G.calm, G.nd⟩
def fNeg : D1 := fun x κ Q => match x with
  | .int i => Q (.int (-i)) κ
  | _ => False
theorem sim_neg {C : Ctx} : Sim1 C fNeg (rU fun i => .int (-i)) := by
  intro F ρ κ H x v QD Q S r h P
  cases x <;> first | exact h.elim | skip
  cases r
  exact ⟨_, rfl, P _ _ _ _ _ _ (Ext.refl _ _) S (.int _) h⟩
theorem pd_neg {X : Cx} {W : WX} {e : Expr} {a : DE} {pos : Pos} (ha : PED X W e a) : PED X W (.UnaryOp .USub e pos) (dUn fNeg a) := pd_un un_neg sim_neg ha

/-! ### dicts written out -/
def dDct0 (m : Bool) : DE := fun _ κ _ Q => fNew m (.dct []) [] κ Q
theorem pd_dct0 {X : Cx} {W : WX} {pos : Pos} (m : Bool) : PED X W (.Dict [] [] pos) (dDct0 m) := pe_weak pe_dnewK fun σ H Q ⟨F, ρ, κ, δ, XD, QD, S, R, h, P, PX⟩ =>
  new_dct (kvs := []) S .nil h P
def dPairs : List (DE × DE) → DEnv → Kap → DX → (List (D × D) → Kap → Prop) → Prop
  | [], _, κ, _, Q => Q [] κ
  | (a, b) :: r, δ, κ, X, Q => a δ κ X fun x κ1 => b δ κ1 X fun y κ2 => dPairs r δ κ2 X fun ps κ3 => Q ((x, y) :: ps) κ3
def dDisp (m : Bool) (prs : List (DE × DE)) : DE := fun δ κ X Q => ∀ n, κ n = none → dPairs prs δ (kset κ n (.live (.dct []) [])) X fun ps κ1 => κ1 n = some (.live (.dct []) []) ∧ ∃ ks : List Key, ps.map (·.1) = ks.map keyD ∧ ks.Nodup ∧ ks.length ≤ 15 ∧
  match m with
  | true => Q (.cell n) (kset κ1 n (.live (.dct ks) (ps.map (·.2))))
  | false => Q (.node (.dct ks) (ps.map (·.2))) (kset κ1 n .dead)
inductive RepP (C : Ctx) (F : Hp) (ρ : Loc0) : List (D × D) → List (V × V) → Prop
  | nil : RepP C F ρ [] []
  | cons {x y : D} {v u : V} {ps : List (D × D)} {qs : List (V × V)} (h1 : Rep C F ρ x v) (h2 : Rep C F ρ y u) (t : RepP C F ρ ps qs) : RepP C F ρ ((x, y) :: ps) ((v, u) :: qs)
theorem RepP.ext {C : Ctx} {F F' : Hp} {ρ ρ' : Loc0} (e : Ext F ρ F' ρ') : ∀ {ps : List (D × D)} {qs : List (V × V)}, RepP C F ρ ps qs → RepP C F' ρ' ps qs
  | _, _, .nil => .nil
  | _, _, .cons h1 h2 t => .cons (h1.ext e) (h2.ext e) (RepP.ext e t)
theorem RepP.snd {C : Ctx} {F : Hp} {ρ : Loc0} : ∀ {ps : List (D × D)} {qs : List (V × V)}, RepP C F ρ ps qs → RepL C F ρ (ps.map (·.2)) (qs.map (·.2))
  | _, _, .nil => .nil
  | _, _, .cons _ h2 t => .cons h2 (RepP.snd t)
theorem RepP.keys {C : Ctx} {F : Hp} {ρ : Loc0} : ∀ {ks : List Key} {ps : List (D × D)} {qs : List (V × V)}, RepP C F ρ ps qs → ps.map (·.1) = ks.map keyD → ∃ kvs : List (Key × V), qs = kvs.map (fun kv => (kV kv.1, kv.2)) ∧ kvs.map (·.1) = ks ∧ kvs.map (·.2) = qs.map (·.2)
  | [], _, _, .nil, _ => ⟨[], rfl, rfl, rfl⟩
  | k :: ks, _, _, .cons (u := u) h1 _ t, h => by
    rw [List.map_cons, List.map_cons] at h
    obtain ⟨e1, e2⟩ := List.cons.inj h
    obtain ⟨kvs, q1, q2, q3⟩ := RepP.keys t e2
    have e1' := e1
    subst e1
    refine ⟨(k, u) :: kvs, ?_, by rw [List.map_cons, q2], by rw [List.map_cons, List.map_cons, q3]⟩
    rw [List.map_cons, ← q1]
    cases k with
    | inl i => cases h1; rfl
    | inr x => cases h1; rfl
theorem merge_nodup : ∀ {kvs acc : List (Key × V)}, (acc.map (·.1) ++ kvs.map (·.1)).Nodup → mergeK acc kvs = acc ++ kvs
  | [], acc, _ => by unfold mergeK; simp
  | (k, v) :: r, acc, h => by
    unfold mergeK
    rw [List.foldl_cons]
    have hk : ∀ p ∈ acc, p.1 ≠ k := fun p hp e => by
      rw [List.nodup_append] at h
      exact h.2.2 p.1 (List.mem_map.mpr ⟨p, hp, rfl⟩) k (by simp) e
    have e : putK acc k v = acc ++ [(k, v)] := by
      unfold putK
      rw [if_neg]
      rw [List.any_eq_true]
      rintro ⟨p, hp, q⟩
      exact hk p hp (of_decide_eq_true q)
    show mergeK (putK acc k v) r = _
    rw [e, merge_nodup (by simpa [List.append_assoc] using h), List.append_assoc]
    rfl
theorem lift_pairs {C : Ctx} {W : WX} {Qv : List (V × V) → Hp → Prop} : ∀ {prs : List (DE × DE)} {F : Hp} {ρ : Loc0} {κ : Kap} {δ : DEnv} {σ : L2.St} {H : Hp} {XD : DX} {QD : List (D × D) → Kap → Prop}, StR C F ρ κ H → RepS C F ρ δ σ → dPairs prs δ κ XD QD → PostX C F ρ XD W →
    (∀ F' ρ' κ' H' ps qs, Ext F ρ F' ρ' → StR C F' ρ' κ' H' → RepP C F' ρ' ps qs → QD ps κ' → Qv qs H') → tPairs (prs.map fun p => (liftE C W p.1, liftE C W p.2)) σ H Qv
  | [], F, ρ, κ, δ, σ, H, XD, QD, S, R, h, PX, P => P _ _ _ _ _ _ (Ext.refl _ _) S .nil h
  | (a, b) :: r, F, ρ, κ, δ, σ, H, XD, QD, S, R, h, PX, P => ⟨F, ρ, κ, δ, XD, _, S, R, h, fun F1 ρ1 κ1 H1 x v e1 S1 R1 h1 => ⟨F1, ρ1, κ1, δ, XD, _, S1, R.ext e1, h1, fun F2 ρ2 κ2 H2 y u e2 S2 R2 h2 =>
      lift_pairs S2 (R.ext (e1.trans e2)) h2 (PX.ext (e1.trans e2)) fun F3 ρ3 κ3 H3 ps qs e3 S3 R3 h3 => P _ _ _ _ _ _ (e1.trans (e2.trans e3)) S3 (.cons (R1.ext (e2.trans e3)) (R2.ext e3) R3) h3, PX.ext e1⟩, PX⟩
abbrev PPsD (X : Cx) (W : WX) (pos : Pos) (keys : List (Option Expr)) (values : List Expr) (prs : List (DE × DE)) : Prop := PPs X pos keys values (prs.map fun p => (liftE (CtxOf X) W p.1, liftE (CtxOf X) W p.2))
section
variable {X : Cx} {W : WX} {pos : Pos} {keys : List (Option Expr)} {values : List Expr} {prs : List (DE × DE)} {k v : Expr} {a b : DE}
theorem pps_nilD : PPsD X W pos [] [] [] := pps_nil
theorem pps_consD (h1 : PED X W k a) (h2 : PED X W v b) (h : PPsD X W pos keys values prs) : PPsD X W pos (some k :: keys) (v :: values) ((a, b) :: prs) := pps_cons h1 h2 h
theorem pd_disp (m : Bool) (h : PPsD X W pos keys values prs) (hall : keys.all (·.isSome) = true := by rfl) (hl : keys.length = values.length := by rfl) (h0 : keys ≠ [] := by exact fun z => nomatch z) (h15 : keys.length ≤ 15 := by decide) : PED X W (.Dict keys values pos) (dDisp m prs) :=
  pe_weak (pe_disp h hall hl h0 h15) fun σ H Q ⟨F, ρ, κ, δ, XD, QD, S, R, h, P, PX⟩ p hp => by
  obtain ⟨n, hn⟩ := S.fresh
  obtain ⟨ρ1, e1, hr, S1⟩ := S.cell (o := .dK []) (k := .dct []) (vs := []) (xs := []) hp (fun _ q => ⟨[], q, rfl, rfl⟩) .nil hn
  refine lift_pairs S1 (R.ext e1) (h n hn) (PX.ext e1) fun F2 ρ2 κ2 H2 ps qs e2 S2 R2 ⟨h1, ks, h2, h3, h4, h5⟩ => ?_
  obtain ⟨b, vs, g1, g2, ⟨kvs0, g3, g4, _⟩, g5⟩ := S2.live n _ _ h1
  rw [e2.r _ _ hr] at g1
  cases g1
  have hk0 : kvs0 = [] := by cases kvs0 with | nil => rfl | cons => cases g4
  subst hk0
  obtain ⟨kvs, q1, q2, q3⟩ := R2.keys h2
  refine ⟨g3, kvs, q1, by rw [← List.length_map (f := (·.1)), q2]; exact h4, ?_⟩
  have em : mergeK [] kvs = kvs := by rw [merge_nodup (by rw [q2]; exact h3)]; rfl
  rw [em]
  have S3 : StR (CtxOf X) F2 ρ2 (kset κ2 n (.live (.dct ks) (ps.map (·.2)))) (upd H2 p (.dK kvs)) := S2.write (k' := .dct ks) h1 (e2.r _ _ hr) (fun _ q => ⟨kvs, q, q2, q3⟩) R2.snd
  cases m with
  | true => exact P _ _ _ _ _ _ (e1.trans e2) S3 (.cell (e2.r _ _ hr)) h5
  | false =>
    obtain ⟨F3, e3, r3, S4⟩ := S3.freeze kset_same (e2.r _ _ hr)
    rw [kset_kset] at S4
    exact P _ _ _ _ _ _ (e1.trans (e2.trans e3)) S4 r3 h5
end

/-! ### defs by name -/
/-- a def of the text stands under its name and keeps a promise -/
structure OkD (P : Program) (w : World) (K : PySem.W.Frag) (mg : Str → Option Value) (base : Heap) (k : Nat) (x : Str) (f : Addr) (fd : FuncData) (ps : List Str) (sp : DSp) : Prop where
  m : mg x = some (.ref f)
  kp : PySem.W.keepIn K (.ref f) = true
  fn : FnG P w K mg base k f fd ps sp
  bd : Binds K fd ps []
def Ok (P : Program) (w : World) (K : PySem.W.Frag) (mg : Str → Option Value) (base : Heap) (k : Nat) (x : Str) (ps : List Str) (sp : DSp) : Prop := ∃ f fd, OkD P w K mg base k x f fd ps sp
theorem Ok.mono {P : Program} {w : World} {K : PySem.W.Frag} {mg : Str → Option Value} {base : Heap} {j k : Nat} {x : Str} {ps : List Str} {sp : DSp} (O : Ok P w K mg base j x ps sp) (h : j ≤ k) : Ok P w K mg base k x ps sp :=
  let ⟨f, fd, o⟩ := O; ⟨f, fd, o.m, o.kp, o.fn.mono h, o.bd⟩
section
variable {X : Cx} {W : WX} {j k : Nat} {ps : List Str} {sp : DSp} {x : Str} {e : Expr} {es : List Expr} {as : DA} {p pos : Pos}
theorem pd_callN (G : Good k X W) (O : Ok X.prog X.w X.K X.mg X.base k x ps sp) (ha : PAD X W (e :: es) as) (hg : Gl X x := by rfl) (hdb : (x == ("__debug__" : Str)) = false := by decide)
    (he : starEach (e :: es) X.env = (false, eval e X.env) :: starEach es X.env := by rfl) (hpl : (backTo pos (starEach es X.env)).any (·.1) = false := by rfl) : PED X W (.Call (.Name x p) (e :: es) [] pos) (dCall sp [] as) := by
  obtain ⟨f, fd, o⟩ := O
  exact pd_call G o.fn o.m o.kp o.bd nodef ha hg hdb he hpl
theorem pd_callN0 (G : Good k X W) (O : Ok X.prog X.w X.K X.mg X.base k x ps sp) (hg : Gl X x := by rfl) (hdb : (x == ("__debug__" : Str)) = false := by decide) : PED X W (.Call (.Name x p) [] [] pos) (dCall sp [] dNil) := by
  obtain ⟨f, fd, o⟩ := O
  exact pd_call0 G o.fn o.m o.kp o.bd nodef hg hdb
end
/-- what is known of a def ahead of its proof -/
structure DefAt (K : PySem.W.Frag) (mg : Str → Option Value) (x : Str) (st : Stmt) (f : Addr) (fd : FuncData) : Prop where
  m : mg x = some (.ref f)
  F : Fun K x x st f fd
section
variable {P : Program} {w : World} {K : PySem.W.Frag} {mg : Str → Option Value} {base : Heap}
theorem ok_def {x : Str} {st : Stmt} {f : Addr} {fd : FuncData} {N ps : List Str} {k : Nat} {b : DS} (D : DefAt K mg x st f fd) (S : FnScope N ps (defScope st)) (sm : ∃ o, base.get? sysModules = some o)
    (hbind : ∀ (kV doc pm : Value) (an : Option Addr) (cdv ct : Value) (us : List Value), us.length = ps.length → bindArgs (PySem.W.fnOf x x (defArgs st) (defBody st) (defScope st) .none kV doc pm an cdv ct) ⟨us, []⟩ = pure (ps.zip us))
    (hbody : ∀ (cdv : Value) (A : Around) (outer : List Env) (s : Shared) (H : Hp) (E : XK), Good k (cxD P w K mg base N x (defScope st) f cdv A outer s H E) (wxE E) → PSsD (cxD P w K mg base N x (defScope st) f cdv A outer s H E) (wxE E) (defBody st) b) :
    Ok P w K mg base (k + 1) x ps (spOf N.length ps.length b) :=
  ⟨f, fd, D.m, D.F.kp, Fn_ok D.F S sm hbody, D.F.binds hbind⟩
end
/-! ### exceptions by name -/
def ExOk (P : Program) (w : World) (K : PySem.W.Frag) (mg : Str → Option Value) (base : Heap) (c : Str) (ns : List Str) : Prop :=
  ∃ ca fI fd ps sp, ExcM P w K mg base c ca fI fd ps sp ∧ ExGives K ns sp ∧ ∀ f ∈ ns, PySem.W.findIn K (.ref ca) f = some none
theorem pd_mkE {X : Cx} {W : WX} {k : Nat} {c : Str} {ns : List Str} {e : Expr} {es : List Expr} {as : DA} {p pos : Pos} (G : Good (k + 2) X W) (O : ExOk X.prog X.w X.K X.mg X.base c ns) (ha : PAD X W (e :: es) as) (hgl : Gl X c := by rfl) (hdb : (c == ("__debug__" : Str)) = false := by decide)
    (he : starEach (e :: es) X.env = (false, eval e X.env) :: starEach es X.env := by rfl) (hpl : (backTo pos (starEach es X.env)).any (·.1) = false := by rfl) : PED X W (.Call (.Name c p) (e :: es) [] pos) (dMk c ns as) := by
  obtain ⟨ca, fI, fd, ps, sp, M, hg, hf⟩ := O
  exact pd_mkExc G M hg hf ha hgl hdb he hpl
theorem pd_glbRefE {X : Cx} {W : WX} {x : Str} {p : Pos} (hm : ∃ f, X.mg x = some (.ref f)) (hg : Gl X x := by rfl) (hdb : (x == ("__debug__" : Str)) = false := by decide) : PED X W (.Name x p) (dC (.glb x)) := by
  obtain ⟨f, hm⟩ := hm
  exact pd_glbRef hm hg hdb
end DL

/-! DL: from what the top has left to what the defs lean on. -/
namespace DL
open PySem PySem.Spec PyProof.Rows L2

section
variable {K : PySem.W.Frag} {mg : Str → Option Value} {h : Heap}
theorem defAt_of {x : Str} {st : Stmt} {f : Addr} {oc : Value} {od an : Option Addr} {osl : Array (Option Value)} {kV doc pm cdv ct : Value} (X : K.In h) (G : h.Ns mainGlobals mg) (a : PySem.W.nsIn K mainGlobals x = some (some (.ref f)))
    (l : K.lookup f = some ⟨oc, od, .func (PySem.W.fnOf x x (defArgs st) (defBody st) (defScope st) .none kV doc pm an cdv ct), osl⟩) (c : PySem.W.codeIn K cdv x = true) (k : PySem.W.keepIn K (.ref f) = true) :
    DefAt K mg x st f (PySem.W.fnOf x x (defArgs st) (defBody st) (defScope st) .none kV doc pm an cdv ct) := ⟨PySem.W.mg_of X G a, fun_mk l c k⟩
theorem glb_of {x : Str} {v : Value} (X : K.In h) (G : h.Ns mainGlobals mg) (a : PySem.W.nsIn K mainGlobals x = some (some v)) : mg x = some v := PySem.W.mg_of X G a
theorem bltn_of {x : Str} (X : K.In h) (G : h.Ns mainGlobals mg) (a : PySem.W.nsIn K mainGlobals x = some none) : mg x = none := PySem.W.mg_none_of X G a
theorem baseC_of {x : Str} {ca : Addr} (X : K.In h) (G : h.Ns mainGlobals mg) (a : PySem.W.nsIn K mainGlobals x = some (some (.ref ca))) (ga : PySem.W.specialIn K (.ref ca) "__getattribute__" = some (some (.builtin "type.__getattribute__")))
    (rd : PySem.W.readsIn K ca (.type "type") = true) (fi : PySem.W.findCls K (.ref ca) (.type "type") "__init__" = some (.val (.builtin "ValueError.__init__"))) : BaseC K mg x ca := ⟨PySem.W.mg_of X G a, ga, rd, fi⟩
theorem oexC_of {C : Addr} {nm q : Str} {N : Addr} {bs bm : List Value} {sn : List Str} {sub : List Value} {ab : Bool} {col : Option Bool} {dd : Option Addr} {m0 m1 m2 m3 m5 : Option Value}
    (xL : K.lookup C = some (excClassObj nm q C N bs bm true sn sub ab col dd m0 m1 m2 m3 m5 "ValueError.__new__")) (hb : PySem.HandSPX.refsVE bm = true) (sa : PySem.W.findIn K (.ref C) "__setattr__" = some (some (.builtin "object.__setattr__")))
    (e : PySem.W.subIn K (.ref C) (.type "BaseException") = some true) (t : PySem.W.typeIn K (.ref C) = some (.type "type")) (k : PySem.W.keepIn K (.ref C) = true) : OexC K C := ⟨⟨nm, q, N, bs, bm, sn, sub, ab, col, dd, m0, m1, m2, m3, m5, xL, hb⟩, sa, e, t, k⟩
end
/-! tables of isinstance -/
abbrev KRow := TyK × CK × Bool
def ktOf (tab : List KRow) : KTab := fun t u => match t, u with
  | .b m, .b n => kitB m n
  | t, u => (tab.find? fun p => decide (p.1 = t ∧ p.2.1 = u)).map (·.2.2)
def KFact (K : PySem.W.Frag) (mg : Str → Option Value) (p : KRow) : Prop := (∃ tv uv, TyVal mg p.1 tv ∧ CkVal mg p.2.1 uv ∧ PySem.W.kitOne K tv uv = some p.2.2) ∧ match p.1 with
  | .b _ => True
  | .o c => ∃ ca, mg c = some (.ref ca) ∧ InsT K ca
  | .e c => ∃ ca, mg c = some (.ref ca) ∧ L2.ExcC K ca
theorem tyVal_inj {mg : Str → Option Value} {t : TyK} {a b : Value} (h : TyVal mg t a) (h' : TyVal mg t b) : a = b := by
  cases t with
  | b n => exact (show a = .type n from h).trans (show b = .type n from h').symm
  | o c =>
    obtain ⟨x, hx, rfl⟩ := h
    obtain ⟨y, hy, rfl⟩ := h'
    rw [hx] at hy
    cases hy
    rfl
  | e c =>
    obtain ⟨x, hx, rfl⟩ := h
    obtain ⟨y, hy, rfl⟩ := h'
    rw [hx] at hy
    cases hy
    rfl
theorem ckVal_inj {mg : Str → Option Value} {t : CK} {a b : Value} (h : CkVal mg t a) (h' : CkVal mg t b) : a = b := by
  cases t with
  | b n => exact (show a = .type n from h).trans (show b = .type n from h').symm
  | c c =>
    obtain ⟨x, hx, rfl⟩ := h
    obtain ⟨y, hy, rfl⟩ := h'
    rw [hx] at hy
    cases hy
    rfl
theorem kitT_of {K : PySem.W.Frag} {mg : Str → Option Value} {tab : List KRow} (h : ∀ p ∈ tab, KFact K mg p) : KitT K mg (ktOf tab) := by
  have look : ∀ {t : TyK} {u : CK} {b : Bool}, (tab.find? fun p => decide (p.1 = t ∧ p.2.1 = u)).map (·.2.2) = some b → KFact K mg (t, u, b) := fun {t u b} e => by
    obtain ⟨p, hp, rfl⟩ := Option.map_eq_some_iff.mp e
    have h1 := List.mem_of_find?_eq_some hp
    have h2 := List.find?_some hp
    obtain ⟨rfl, rfl⟩ := of_decide_eq_true h2
    exact h p h1
  have use : ∀ {t : TyK} {u : CK} {b : Bool}, KFact K mg (t, u, b) → ∀ tv uv, TyVal mg t tv → CkVal mg u uv → PySem.W.kitOne K tv uv = some b := fun {t u b} ⟨⟨tv, uv, h1, h2, h3⟩, _⟩ tv' uv' q1 q2 => by
    rw [← tyVal_inj h1 q1, ← ckVal_inj h2 q2]
    exact h3
  refine ⟨fun t u b e tv uv h1 h2 => ?_, fun c u b e ca hc => ?_, fun c u b e ca hc => ?_⟩
  · cases t with
    | b m =>
      cases u with
      | b n =>
        cases (show tv = .type m from h1)
        cases (show uv = .type n from h2)
        exact kit_ty e
      | c c => exact use (look e) tv uv h1 h2
    | o c => exact use (look e) tv uv h1 h2
    | e c => exact use (look e) tv uv h1 h2
  · obtain ⟨_, ca', h1, h2⟩ := look (t := .o c) e
    rw [hc] at h1
    cases h1
    exact h2
  · obtain ⟨_, ca', h1, h2⟩ := look (t := .e c) e
    rw [hc] at h1
    cases h1
    exact h2
theorem kfact_e {K : PySem.W.Frag} {mg : Str → Option Value} {c : Str} {n : String} {b : Bool} {ca : Addr} (m : mg c = some (.ref ca)) (e : L2.ExcC K ca) (k : PySem.W.kitOne K (.ref ca) (.type n) = some b) : KFact K mg (.e c, .b n, b) := ⟨⟨_, _, ⟨ca, m, rfl⟩, rfl, k⟩, ca, m, e⟩
theorem kfact_ec {K : PySem.W.Frag} {mg : Str → Option Value} {c d : Str} {b : Bool} {ca da : Addr} (m : mg c = some (.ref ca)) (m' : mg d = some (.ref da)) (e : L2.ExcC K ca) (k : PySem.W.kitOne K (.ref ca) (.ref da) = some b) : KFact K mg (.e c, .c d, b) := ⟨⟨_, _, ⟨ca, m, rfl⟩, ⟨da, m', rfl⟩, k⟩, ca, m, e⟩
theorem kfact_bc {K : PySem.W.Frag} {mg : Str → Option Value} {d : Str} {n : String} {b : Bool} {da : Addr} (m' : mg d = some (.ref da)) (k : PySem.W.kitOne K (.type n) (.ref da) = some b) : KFact K mg (.b n, .c d, b) := ⟨⟨_, _, rfl, ⟨da, m', rfl⟩, k⟩, trivial⟩
/-! kitB, told -/
theorem kitB_refl (n : String) (h : (Value.type n == Value.type n) = true) : kitB n n = some true := by unfold kitB; rw [if_pos h]
end DL

/-! DL: calls with keywords, defaults; defs that call themselves. -/
namespace DL
open PySem PySem.Spec PyProof.Rows L2

/-- items by their places -/
def pick {α : Type} : List Nat → List α → List α
  | [], _ => []
  | i :: is, l => match l[i]? with
    | some a => a :: pick is l
    | none => pick is l
section
variable {C : Ctx} {F : Hp} {ρ : Loc0}
theorem RepL.getN : ∀ {ds : List D} {vs : List V} {i : Nat}, RepL C F ρ ds vs → ds[i]? = none → vs[i]? = none
  | _, _, i, r, h => by
    rw [List.getElem?_eq_none_iff] at h ⊢
    rw [← r.length]
    exact h
theorem RepL.pick : ∀ {is : List Nat} {ds : List D} {vs : List V}, RepL C F ρ ds vs → RepL C F ρ (pick is ds) (pick is vs)
  | [], _, _, _ => .nil
  | i :: is, ds, vs, r => by
    unfold DL.pick
    cases e : ds[i]? with
    | none => rw [r.getN e]; exact RepL.pick r
    | some d =>
      obtain ⟨v, h1, h2⟩ := r.get e
      rw [h1]
      exact .cons h2 (RepL.pick r)
end
theorem vals_get : ∀ {vs : List V} {us : List Value} {i : Nat}, Vals vs us → (∃ v u, vs[i]? = some v ∧ us[i]? = some u ∧ RelV v u) ∨ (vs[i]? = none ∧ us[i]? = none)
  | [], _, i, .nil => .inr ⟨rfl, rfl⟩
  | v :: vs, _, 0, .cons h t => .inl ⟨v, _, rfl, rfl, h⟩
  | v :: vs, _, i + 1, .cons h t => by
    rw [List.getElem?_cons_succ, List.getElem?_cons_succ]
    exact vals_get t
theorem vals_pick : ∀ {is : List Nat} {vs : List V} {us : List Value}, Vals vs us → Vals (pick is vs) (pick is us)
  | [], _, _, _ => .nil
  | i :: is, vs, us, r => by
    unfold pick
    rcases vals_get (i := i) r with ⟨v, u, h1, h2, h3⟩ | ⟨h1, h2⟩
    · rw [h1, h2]
      exact .cons h3 (vals_pick r)
    · rw [h1, h2]
      exact vals_pick r
/-- a def that may be called with n values by place and the keywords ks; is tells where each parameter's value stands among the values by place, the keywords' values and the defaults dds -/
def OkC (P : Program) (w : World) (K : PySem.W.Frag) (mg : Str → Option Value) (base : Heap) (k : Nat) (x : Str) (n : Nat) (ks : List Str) (is : List Nat) (dds : List D) (sp : DSp) : Prop :=
  ∃ f fd ps, ∃ dvs : List V, ∃ its : List Value, mg x = some (.ref f) ∧ PySem.W.keepIn K (.ref f) = true ∧ FnG P w K mg base k f fd ps sp ∧ KBn K fd ps n ks (fun us ws => pick is (us ++ (ws ++ its))) (fun vs zs => pick is (vs ++ (zs ++ dvs))) ∧ ∀ F ρ, RepL ⟨K, mg⟩ F ρ dds dvs
theorem OkC.mono {P : Program} {w : World} {K : PySem.W.Frag} {mg : Str → Option Value} {base : Heap} {j k : Nat} {x : Str} {n : Nat} {ks : List Str} {is : List Nat} {dds : List D} {sp : DSp} (O : OkC P w K mg base j x n ks is dds sp) (h : j ≤ k) : OkC P w K mg base k x n ks is dds sp :=
  let ⟨f, fd, ps, dvs, its, h1, h2, h3, h4⟩ := O; ⟨f, fd, ps, dvs, its, h1, h2, h3.mono h, h4⟩
def cC (sp : DSp) (n m : Nat) (is : List Nat) (dds xs ys : List D) (κ : Kap) (X : Str → List D → Kap → Prop) (Q : DQ) : Prop := xs.length = n ∧ ys.length = m ∧ sp (pick is (xs ++ (ys ++ dds))) κ X Q
def dCallC (sp : DSp) (n m : Nat) (is : List Nat) (dds : List D) (as kw : DA) : DE := fun δ κ X Q => as δ κ X fun xs κ1 => kw δ κ1 X fun ys κ2 => cC sp n m is dds xs ys κ2 (X δ) Q
abbrev PKD (X : Cx) (W : WX) (kws : List Keyword) (d : DA) : Prop := PK X kws (liftA (CtxOf X) W d)
section
variable {X : Cx} {W : WX} {k n m : Nat} {f : Addr} {fd : FuncData} {ps ks : List Str} {is : List Nat} {sp : DSp} {dds : List D} {x : Str} {e : Expr} {es : List Expr} {kws : List Keyword} {as kw : DA} {a : DE} {p pos kpos : Pos} {nm : Option Str}
theorem pk_weak {t t' : TA} (h : PK X kws t) (w : ∀ σ H Q, t' σ H Q → t σ H Q) : PK X kws t' := ⟨fun pos pins s σ H Q I q => h.run pos pins s σ H Q I (w σ H Q q)⟩
theorem pk_nilD : PKD X W [] dNil := pk_weak pk_nil fun _ _ _ h => lift_nil h
theorem pk_consD (ha : PED X W e a) (hr : PKD X W kws kw) : PKD X W (⟨nm, e, kpos⟩ :: kws) (dCons a kw) := pk_weak (pk_cons ha hr) fun _ _ _ h => lift_cons h
theorem run_fnC {pins : List (Addr × Obj)} {σ : L2.St} {δ : DEnv} {H : Hp} {s : Shared} {Q : VK} {us ws its : List Value} {vs zs dvs : List V} {xs ys : List D} {F : Hp} {ρ : Loc0} {κ : Kap} {XD : DX} {QD : DQ} (G : Good k X W) (F1 : FnG X.prog X.w X.K X.mg X.base k f fd ps sp) (I : L2.Inv X pins σ H s)
    (hb : KBn X.K fd ps n ks (fun us ws => pick is (us ++ (ws ++ its))) (fun vs zs => pick is (vs ++ (zs ++ dvs)))) (hd : ∀ F ρ, RepL (CtxOf X) F ρ dds dvs) (r : Vals vs us) (rz : Vals zs ws)
    (S : StR (CtxOf X) F ρ κ H) (R : RepS (CtxOf X) F ρ δ σ) (rr : RepL (CtxOf X) F ρ xs vs) (rq : RepL (CtxOf X) F ρ ys zs) (h : cC sp n m is dds xs ys κ (XD δ) QD) (hm : ks.length = m) (P : Post (CtxOf X) F ρ QD Q) (PX : PostX (CtxOf X) F ρ XD W) : wpAny (model X.prog X.w) X.A (call (.ref f) us (ks.zip ws)) (EP X pins σ Q) X.xe s := by
  obtain ⟨h1, h2, h3⟩ := h
  have l1 : us.length = n := by rw [← Paired.length r, ← rr.length, h1]
  have l2 : ws.length = ks.length := by rw [← Paired.length rz, ← rq.length, h2, hm]
  have rep : RepL (CtxOf X) F ρ (pick is (xs ++ (ys ++ dds))) (pick is (vs ++ (zs ++ dvs))) := RepL.pick (rr.append (rq.append (hd F ρ)))
  refine wpAny_call (codeAny_mono (F1.run X.A X.stack s H ⟨us, ks.zip ws⟩ _ _ _ F ρ κ _ _ Q (fun cls dd H' => W cls dd σ H') G.rm G.gd I.env0 (hb.to s us ws I.kIn l1 l2) (hb.rel r rz) S rep h3 P fun F' ρ' κ' H' c fs cls dd e S' rx q => PX _ _ _ _ _ _ _ _ _ _ e S' (R.ext e) rx q) fun rs s' hq => ?_)
  cases rs with
  | error er => exact G.tk er s' (L2N.XE.of_call I (fun _ _ _ h => h) hq)
  | ok fl =>
    cases fl with
    | ret u => exact I.after hq
    | next => exact False.elim hq
    | brk => exact False.elim hq
    | cont => exact False.elim hq
theorem pd_callC (G : Good k X W) (O : OkC X.prog X.w X.K X.mg X.base k x n [] is dds sp) (ha : PAD X W (e :: es) as) (hg : Gl X x := by rfl) (hdb : (x == ("__debug__" : Str)) = false := by decide) (he : starEach (e :: es) X.env = (false, eval e X.env) :: starEach es X.env := by rfl)
    (hpl : (backTo pos (starEach es X.env)).any (·.1) = false := by rfl) : PED X W (.Call (.Name x p) (e :: es) [] pos) (dCallC sp n 0 is dds as dNil) := by
  obtain ⟨f, fd, ps, dvs, its, hm, hk, F1, hb, hd⟩ := O
  refine ⟨fun pins s σ H Q I ⟨F, ρ, κ, δ, XD, QD, S, R, h, P, PX⟩ => ?_⟩
  refine wpAny_Call_Name_kw (ld_glob I hg hm ?_ hdb)
  refine PySem.W.callWith_K (h₀ := X.base) I.ok.mod.kin hk (thn (ha.run pos pins s σ H (fun vs H1 => ∃ F1 ρ1 κ1 xs, Ext F ρ F1 ρ1 ∧ StR (CtxOf X) F1 ρ1 κ1 H1 ∧ RepL (CtxOf X) F1 ρ1 xs vs ∧ cC sp n 0 is dds xs [] κ1 (XD δ) QD) I
    ⟨F, ρ, κ, δ, XD, _, S, R, h, fun F1 ρ1 κ1 H1 xs vs e1 S1 R1 h1 => ⟨F1, ρ1, κ1, xs, e1, S1, R1, h1⟩, PX⟩) fun us s1 ⟨vs, H1, I1, r1, F2, ρ1, κ1, xs, e1, S1, R1, h1⟩ => ⟨I1.kIn, ?_⟩) he hpl
  exact run_fnC G F1 I1 hb hd r1 .nil S1 (R.ext e1) R1 .nil h1 rfl (P.ext e1) (PX.ext e1)
theorem pd_callCK (G : Good k X W) (O : OkC X.prog X.w X.K X.mg X.base k x n ks is dds sp) (ha : PAD X W (e :: es) as) (hkw : PKD X W kws kw) (hg : Gl X x := by rfl) (hdb : (x == ("__debug__" : Str)) = false := by decide) (he : starEach (e :: es) X.env = (false, eval e X.env) :: starEach es X.env := by rfl)
    (hall : (backToKw pos (keywordEach kws X.env)).all (·.1.isSome) = true := by rfl) (hks : (backToKw pos (keywordEach kws X.env)).filterMap (·.1) = ks := by rfl)
    (hpl : ((backTo pos (starEach (e :: es) X.env)).any (·.1) || (backToKw pos (keywordEach kws X.env)).any (·.1.isNone)) = false := by rfl) : PED X W (.Call (.Name x p) (e :: es) kws pos) (dCallC sp n ks.length is dds as kw) := by
  obtain ⟨f, fd, ps, dvs, its, hm, hk, F1, hb, hd⟩ := O
  refine ⟨fun pins s σ H Q I ⟨F, ρ, κ, δ, XD, QD, S, R, h, P, PX⟩ => ?_⟩
  refine wpAny_Call_Name_kw (ld_glob I hg hm ?_ hdb)
  refine PySem.W.callWith_KW (h₀ := X.base) I.ok.mod.kin hk hall (thn (ha.run pos pins s σ H (fun vs H1 => ∃ F1 ρ1 κ1 xs, Ext F ρ F1 ρ1 ∧ StR (CtxOf X) F1 ρ1 κ1 H1 ∧ RepL (CtxOf X) F1 ρ1 xs vs ∧ kw δ κ1 XD fun ys κ2 => cC sp n ks.length is dds xs ys κ2 (XD δ) QD) I
    ⟨F, ρ, κ, δ, XD, _, S, R, h, fun F1 ρ1 κ1 H1 xs vs e1 S1 R1 h1 => ⟨F1, ρ1, κ1, xs, e1, S1, R1, h1⟩, PX⟩) fun us s1 ⟨vs, H1, I1, r1, F2, ρ1, κ1, xs, e1, S1, R1, h1⟩ => ?_) hpl he
  refine thn (hkw.run pos pins s1 σ H1 (fun zs H2 => ∃ F3 ρ3 κ3 ys, Ext F2 ρ1 F3 ρ3 ∧ StR (CtxOf X) F3 ρ3 κ3 H2 ∧ RepL (CtxOf X) F3 ρ3 ys zs ∧ cC sp n ks.length is dds xs ys κ3 (XD δ) QD) I1
    ⟨F2, ρ1, κ1, δ, XD, _, S1, R.ext e1, h1, fun F3 ρ3 κ3 H3 ys zs e3 S3 R3 h3 => ⟨F3, ρ3, κ3, ys, e3, S3, R3, h3⟩, PX.ext e1⟩) fun ws s2 ⟨zs, H2, I2, rz, F3, ρ3, κ3, ys, e3, S3, R3, h3⟩ => ⟨I2.kIn, ?_⟩
  rw [hks]
  exact run_fnC G F1 I2 hb hd r1 rz S3 (R.ext (e1.trans e3)) (R1.ext e3) R3 h3 rfl (P.ext (e1.trans e3)) (PX.ext (e1.trans e3))
theorem pd_callCK0 (G : Good k X W) (O : OkC X.prog X.w X.K X.mg X.base k x 0 ks is dds sp) (hkw : PKD X W kws kw) (hg : Gl X x := by rfl) (hdb : (x == ("__debug__" : Str)) = false := by decide)
    (hall : (backToKw pos (keywordEach kws X.env)).all (·.1.isSome) = true := by rfl) (hks : (backToKw pos (keywordEach kws X.env)).filterMap (·.1) = ks := by rfl)
    (hpl : ((backTo pos (starEach [] X.env)).any (·.1) || (backToKw pos (keywordEach kws X.env)).any (·.1.isNone)) = false := by rfl) : PED X W (.Call (.Name x p) [] kws pos) (dCallC sp 0 ks.length is dds dNil kw) := by
  obtain ⟨f, fd, ps, dvs, its, hm, hk, F1, hb, hd⟩ := O
  refine ⟨fun pins s σ H Q I ⟨F, ρ, κ, δ, XD, QD, S, R, h, P, PX⟩ => ?_⟩
  refine wpAny_Call_Name_kw (ld_glob I hg hm ?_ hdb)
  refine PySem.W.callWith_KW0 (h₀ := X.base) I.ok.mod.kin hk hall (thn (hkw.run pos pins s σ H (fun zs H2 => ∃ F3 ρ3 κ3 ys, Ext F ρ F3 ρ3 ∧ StR (CtxOf X) F3 ρ3 κ3 H2 ∧ RepL (CtxOf X) F3 ρ3 ys zs ∧ cC sp 0 ks.length is dds [] ys κ3 (XD δ) QD) I
    ⟨F, ρ, κ, δ, XD, _, S, R, h, fun F3 ρ3 κ3 H3 ys zs e3 S3 R3 h3 => ⟨F3, ρ3, κ3, ys, e3, S3, R3, h3⟩, PX⟩) fun ws s2 ⟨zs, H2, I2, rz, F3, ρ3, κ3, ys, e3, S3, R3, h3⟩ => ⟨I2.kIn, ?_⟩) hpl
  rw [hks]
  exact run_fnC G F1 I2 hb hd .nil rz S3 (R.ext e3) .nil R3 h3 rfl (P.ext e3) (PX.ext e3)
end
/-! a def without defaults, called with keywords -/
section
variable {P : Program} {w : World} {K : PySem.W.Frag} {mg : Str → Option Value} {base : Heap}
theorem okC_of {x : Str} {st : Stmt} {f : Addr} {fd : FuncData} {ps ks : List Str} {k n : Nat} {is : List Nat} {sp : DSp} (D : DefAt K mg x st f fd) (F1 : FnG P w K mg base k f fd ps sp)
    (hbind : ∀ (kV doc pm : Value) (an : Option Addr) (cdv ct : Value) (us ws : List Value), us.length = n → ws.length = ks.length → bindArgs (PySem.W.fnOf x x (defArgs st) (defBody st) (defScope st) .none kV doc pm an cdv ct) ⟨us, ks.zip ws⟩ = pure (ps.zip (pick is (us ++ (ws ++ []))))) :
    OkC P w K mg base k x n ks is [] sp := by
  obtain ⟨oc, od, kV, doc, pm, an, cdv, ct, osl, rfl, lk, hcd⟩ := D.F.ex
  exact ⟨f, _, ps, [], [], D.m, D.F.kp, F1, ⟨fun s us ws _ l1 l2 => .of_eq (hbind kV doc pm an cdv ct us ws l1 l2), fun r1 r2 => vals_pick (r1.append (r2.append .nil))⟩, fun _ _ => .nil⟩
theorem fnG_no {f : Addr} {fd : FuncData} {ps : List Str} {k : Nat} : FnG P w K mg base k f fd ps (fun _ _ _ _ => False) :=
  ⟨fun _ _ _ _ h => h.elim, fun _ _ _ _ _ _ _ _ _ _ _ _ _ _ _ _ _ _ _ _ _ _ h => h.elim⟩
theorem ok_mk {x : Str} {st : Stmt} {f : Addr} {fd : FuncData} {ps : List Str} {k : Nat} {sp : DSp} (D : DefAt K mg x st f fd) (F1 : FnG P w K mg base k f fd ps sp)
    (hbind : ∀ (kV doc pm : Value) (an : Option Addr) (cdv ct : Value) (us : List Value), us.length = ps.length → bindArgs (PySem.W.fnOf x x (defArgs st) (defBody st) (defScope st) .none kV doc pm an cdv ct) ⟨us, []⟩ = pure (ps.zip us)) : Ok P w K mg base k x ps sp :=
  ⟨f, fd, D.m, D.F.kp, F1, D.F.binds hbind⟩
end
end DL

/-! DLk: defs with defaults. -/
namespace DL
open PySem PySem.Spec PyProof.Rows L2
/-- where a def with defaults stands -/
structure DefD (K : PySem.W.Frag) (mg : Str → Option Value) (x : Str) (st : Stmt) (f : Addr) (fd : FuncData) (dvs : List V) (kws : List (Str × V)) : Prop where
  m : mg x = some (.ref f)
  F : FunD K x x (defArgs st) (defBody st) (defScope st) dvs kws f fd
section
variable {P : Program} {w : World} {K : PySem.W.Frag} {mg : Str → Option Value} {base : Heap}
/-- THE RULE for a def with defaults -/
theorem Fn_okD {x qual : Str} {st : Stmt} {dvs : List V} {kws : List (Str × V)} {f : Addr} {fd : FuncData} {N ps : List Str} {k : Nat} {b : DS} (F : FunD K x qual (defArgs st) (defBody st) (defScope st) dvs kws f fd) (S : FnScope N ps (defScope st)) (sm : ∃ o, base.get? sysModules = some o)
    (hbody : ∀ (cdv : Value) (A : Around) (outer : List Env) (s : Shared) (H : Hp) (E : XK), Good k (cxD P w K mg base N qual (defScope st) f cdv A outer s H E) (wxE E) → PSsD (cxD P w K mg base N qual (defScope st) f cdv A outer s H E) (wxE E) (defBody st) b) :
    FnG P w K mg base (k + 1) f fd ps (spOf N.length ps.length b) := by
  refine ⟨fun ds κ XD Q h => h.1, fun A outer s H args us vs ds F0 ρ κ XD QD Q E hr hg e0 hb rv S0 R0 hsp PQ PE => ?_⟩
  obtain ⟨oc, od, dV, kV, doc, pm, an, cdv, ct, osl, rfl, lk, hcd, _, _⟩ := F.ex
  have hl : vs.length = ps.length := by rw [← R0.length, hsp.1]
  have KX : K.In s.heap := e0.mod.kin.keeps fun b o e => (e0.bs b o e).1
  have lim : s.heap.NoLimit := e0.mod.nolimit.keeps fun b o e => (e0.bs b o e).1
  have kinds : ∀ y ∈ ps.zip us, (defScope st).names.lookup y.1 = some .local ∨ ((defScope st).names.lookup y.1 = some .cell ∧ ((cellsFrom (s.heap.objs.size + 1) (defScope st).names []).lookup y.1).isSome = true) := fun y hy => by
    rcases S.par y.1 (List.of_mem_zip (a := y.1) (b := y.2) hy).1 with q | q
    · exact .inl q
    · exact .inr ⟨q, PySem.W.cellsFrom_some _ _ _ (.inl q)⟩
  refine codeAny_call_function hr.depth (KX _ _ lk) rfl S.co S.gen rfl (PySem.W.codeRec_of KX hcd) (hb _ _ _ _ (wpAny_newFunctionEnv_cells S.kind kinds fun env he s1 x => ?_))
  subst he
  refine ⟨lim.keeps x.toInCall.keep, codeAny_func ?_⟩
  have I := inv_start (CX := L2N.CX P w) (N := N) (qual := qual) (E := E) (f := f) (cd := cdv) S hr.hd e0 hl rv x
  have g : Good k (cxD P w K mg base N qual (defScope st) f cdv A outer s H E) (wxE E) :=
    ⟨L2N.takes_of rfl rfl rfl rfl, passes_of rfl, hr.deeper _, hg, sm, rfl, S.nd⟩
  refine wpAny_mono ((hbody cdv A outer s H E g).run [] s1 _ H ⟨fun _ H' => Q .non H', Q, fun _ _ => False, fun _ _ => False⟩ I
    ⟨F0, ρ, κ, startD N.length ds, _, _, S0, repS_start R0, hsp.2, ⟨fun F' ρ' κ' H' δ σ e S R q => PQ _ _ _ _ _ _ e S .non q, PQ, fun _ _ _ _ _ _ _ _ _ z => z.elim, fun _ _ _ _ _ _ _ _ _ z => z.elim⟩,
      fun F' ρ' κ' H' δ σ c fs cls dd e S R rx q => PE _ _ _ _ _ _ _ _ e S rx q⟩) (fun fl s' hs => ?_) fun e s' hs => hs
  cases fl with
  | ret u =>
    obtain ⟨v, σ', H', J, rv', q⟩ := hs
    exact ⟨v, H', J.os, J.bare, J.base, J.hok, rv', q⟩
  | next =>
    obtain ⟨σ', H', J, q⟩ := hs
    exact ⟨.non, H', J.os, J.bare, J.base, J.hok, rfl, q⟩
  | brk => obtain ⟨_, _, _, q⟩ := hs; exact q.elim
  | cont => obtain ⟨_, _, _, q⟩ := hs; exact q.elim

variable {x : Str} {st : Stmt} {f : Addr} {fd : FuncData} {ps ks : List Str} {k n : Nat} {is : List Nat} {sp : DSp} {dds : List D} {dvs : List V} {kws : List (Str × V)}
theorem okC_d (D : DefD K mg x st f fd dvs kws) (F1 : FnG P w K mg base k f fd ps sp) (hd : dvs ≠ []) (hdd : ∀ F ρ, RepL ⟨K, mg⟩ F ρ dds dvs)
    (h : ∀ (T : Addr) (kV doc pm : Value) (an : Option Addr) (cdv ct : Value) (us its ws : List Value), us.length = n → its.length = dvs.length → ws.length = ks.length →
      ∃ k, bindArgs (PySem.W.fnOf x x (defArgs st) (defBody st) (defScope st) (.ref T) kV doc pm an cdv ct) ⟨us, ks.zip ws⟩ = seqItems? (.ref T) >>= k ∧ k (some its.toArray) = pure (ps.zip (pick is (us ++ (ws ++ its))))) :
    OkC P w K mg base k x n ks is dds sp := by
  obtain ⟨its, hb⟩ := D.F.kbindsD n ks (fun us its ws => pick is (us ++ (ws ++ its))) hd (fun r1 r2 r3 => vals_pick (r1.append (r3.append r2))) h
  exact ⟨f, fd, ps, dvs, its, D.m, D.F.kp, F1, hb, hdd⟩
theorem okC_k (D : DefD K mg x st f fd [] kws) (F1 : FnG P w K mg base k f fd ps sp) (ms : List (Str × V)) (hk : kws ≠ []) (hms : ∀ q ∈ ms, q ∈ kws) (hdd : ∀ F ρ, RepL ⟨K, mg⟩ F ρ dds (ms.map (·.2)))
    (h : ∀ (Da : Addr) (doc pm : Value) (an : Option Addr) (cdv ct : Value) (us mv ws : List Value), us.length = n → mv.length = ms.length → ws.length = ks.length →
      KwChain Da ((ms.map (·.1)).zip mv) (bindArgs (PySem.W.fnOf x x (defArgs st) (defBody st) (defScope st) .none (.ref Da) doc pm an cdv ct) ⟨us, ks.zip ws⟩) (ps.zip (pick is (us ++ (ws ++ mv))))) :
    OkC P w K mg base k x n ks is dds sp := by
  obtain ⟨mv, hb⟩ := D.F.kbinds0 n ks ms (fun us mv ws => pick is (us ++ (ws ++ mv))) hk hms (fun r1 r2 r3 => vals_pick (r1.append (r3.append r2))) h
  exact ⟨f, fd, ps, ms.map (·.2), mv, D.m, D.F.kp, F1, hb, hdd⟩
theorem okC_dk (D : DefD K mg x st f fd dvs kws) (F1 : FnG P w K mg base k f fd ps sp) (ms : List (Str × V)) (hd : dvs ≠ []) (hk : kws ≠ []) (hms : ∀ q ∈ ms, q ∈ kws) (hdd : ∀ F ρ, RepL ⟨K, mg⟩ F ρ dds (dvs ++ ms.map (·.2)))
    (h : ∀ (T Da : Addr) (doc pm : Value) (an : Option Addr) (cdv ct : Value) (us its mv ws : List Value), us.length = n → its.length = dvs.length → mv.length = ms.length → ws.length = ks.length →
      ∃ k, bindArgs (PySem.W.fnOf x x (defArgs st) (defBody st) (defScope st) (.ref T) (.ref Da) doc pm an cdv ct) ⟨us, ks.zip ws⟩ = seqItems? (.ref T) >>= k ∧ KwChain Da ((ms.map (·.1)).zip mv) (k (some its.toArray)) (ps.zip (pick is (us ++ (ws ++ (its ++ mv)))))) :
    OkC P w K mg base k x n ks is dds sp := by
  obtain ⟨its, mv, hb⟩ := D.F.kbinds n ks ms (fun us its mv ws => pick is (us ++ (ws ++ (its ++ mv)))) hd hk hms (fun r1 r2 r3 r4 => vals_pick (r1.append (r4.append (r2.append r3)))) h
  exact ⟨f, fd, ps, dvs ++ ms.map (·.2), its ++ mv, D.m, D.F.kp, F1, by simpa only [List.append_assoc] using hb, hdd⟩
theorem defD_of {h : Heap} {x : Str} {f : Addr} {oc : Value} {od an : Option Addr} {osl : Array (Option Value)} {dV kV doc pm cdv ct : Value} {dvs : List V} {kws : List (Str × V)} (X : K.In h) (G : h.Ns mainGlobals mg) (a : PySem.W.nsIn K mainGlobals x = some (some (.ref f)))
    (l : K.lookup f = some ⟨oc, od, .func (PySem.W.fnOf x x (defArgs st) (defBody st) (defScope st) dV kV doc pm an cdv ct), osl⟩) (c : PySem.W.codeIn K cdv x = true) (k : PySem.W.keepIn K (.ref f) = true) (hd : DflV K dV dvs) (hk : KwdV K kV kws) :
    DefD K mg x st f (PySem.W.fnOf x x (defArgs st) (defBody st) (defScope st) dV kV doc pm an cdv ct) dvs kws := ⟨PySem.W.mg_of X G a, ⟨⟨oc, od, dV, kV, doc, pm, an, cdv, ct, osl, rfl, l, c, hd, hk⟩, k⟩⟩
theorem dfl_of {T : Addr} {cls : Value} {dd : Option Addr} {its : List Value} {m : Nat} {sl : Array (Option Value)} (h : dvs ≠ []) (l : K.lookup T = some ⟨cls, dd, .seq its.toArray m, sl⟩) (r : Vals dvs its) : DflV K (.ref T) dvs := .inr ⟨h, T, _, its, m, rfl, l, rfl, r⟩
theorem dfl_no : DflV K .none [] := .inl ⟨rfl, rfl⟩
theorem kwd_no {kV : Value} : KwdV K kV [] := .inl rfl
theorem kwd_of {Da : Addr} (h : ∀ q ∈ kws, ∃ u, PySem.W.nsIn K Da q.1 = some (some u) ∧ RelV q.2 u) : KwdV K (.ref Da) kws := .inr ⟨Da, rfl, h⟩
end
end DL

/-! DLm: raise, try. -/
namespace DL
open PySem PySem.Spec PyProof.Rows L2
/-! ### raise -/
/-- an exception's fields, name and value in turn -/
def xfl : List Str → List D → List D
  | n :: ns, d :: ds => .str n :: d :: xfl ns ds
  | _, _ => []
theorem xfl_rep {C : Ctx} {F : Hp} {ρ : Loc0} : ∀ {ns : List Str} {ds : List D} {vs : List V}, RepL C F ρ ds vs → RepL C F ρ (xfl ns ds) (xflat (ns.zip vs))
  | [], _, _, _ => .nil
  | _ :: _, _, _, .nil => .nil
  | n :: ns, _, _, .cons h t => .cons (.str n) (.cons h (xfl_rep t))
/-! ### an own exception, made where none is handled: its context is None -/
abbrev mkHp (h : Heap) (C : Addr) (us : List Value) : Heap := (h.push (PySem.W.kdv_tup us)).push (PySem.HandSPX.excO C h.objs.size)
theorem pmk_oexN {X : Cx} {CX : CXT} {x : Str} {C fI : Addr} {k : Nat} {fd : FuncData} {ps : List Str} {sp : L2.Sp} {e : Expr} {es : List Expr} {ta : TA} {p pos : Pos}
    (T : OexC X.K C) (findI : PySem.W.findIn X.K (.ref C) "__init__" = some (some (.ref fI))) (typeI : PySem.W.typeIn X.K (.ref fI) = some (.type "function")) (fn : FnOk X.prog X.w X.K X.mg X.base CX k fI fd ps sp)
    (room : Room (k + 1) X.A) (binds : Binds X.K fd ps []) (pass : Passes CX X (fun _ _ _ => False)) (gl : Gl X x) (top : X.mg x = some (.ref C)) (args : PA X (e :: es) ta) (nodbg : (x == ("__debug__" : Str)) = false)
    (star : starEach (e :: es) X.env = (false, eval e X.env) :: starEach es X.env) (plain : (backTo pos (starEach es X.env)).any (·.1) = false) : L2N.PMk X (.Call (.Name x p) (e :: es) [] pos) (tMkO C sp [] ta) := by
  intro pins s σ H Q I todo
  have cls := T.cls
  obtain ⟨_, _, _, _, bm, _, _, _, _, _, _, _, _, _, _, atC, inBm⟩ := cls
  refine wpAny_Call_Name_kw
    (ld_glob I gl top ?_ nodbg)
  refine PySem.W.callWith_K (h₀ := X.base) I.ok.mod.kin T.kC
    (thn (args.run pos pins s σ H _ I todo) ?_) star plain
  rintro us ⟨hp, g, dr, tk, os⟩ ⟨vs, H1, I1, rel, small, next⟩
  refine ⟨I1.kIn, ?_⟩
  show wpAny _ _ (call (.ref C) us) _ _ _
  generalize ea : hp.objs.size + 1 = a
  have fits : hp.objs.size ≤ a := by omega
  have new : H1 a = none := I1.hok.fresh fits
  have here := next a new
  rw [List.append_nil] at here
  have grows : ∀ b o, hp.get? b = some o → (mkHp hp C us).get? b = some o :=
    fun b o z => Heap.get?_push_of_some _ (Heap.get?_push_of_some _ z)
  have stands : (mkHp hp C us).get? a = some (PySem.HandSPX.excO C hp.objs.size) := by
    rw [← ea]
    heap_get
  have J := I1.laid (t' := tk) (a := a) (o := exo a C none) (h' := mkHp hp C us) grows fits (exo_ok stands)
  have rel2 : Vals (V.ref a :: vs) (Value.ref a :: us) := .cons rfl rel
  have count : (Value.ref a :: us ++ []).length = ps.length := by
    have z := rel2.length
    rw [fn.len _ _ _ _ here] at z
    rw [List.append_nil]
    exact z.symm
  have few : us.length ≤ sizeLine := by
    have := Paired.length rel
    have : sizeLine = 16777216 := sizeLine_eq
    omega
  have bound := binds _ (Value.ref a :: us) J.kIn count
  rw [List.append_nil] at bound
  have walked := fn.run _ X.stack _ _ ⟨Value.ref a :: us, []⟩ (Value.ref a :: us) _ _ (fun _ _ _ => False) (room.make C us []) (J.env0.make C us []) bound rel2 here
  subst ea
  refine wpAny_call (PySem.HandSPX.call_own F.excBase_ValueError (fun Y => PySem.HandSPX.refsVE_contains Y bm inBm) (I1.kIn _ _ atC) (PySem.W.looks_findIn I1.kIn findI)
    (fun self => PySem.W.bind_fn I1.kIn self typeI) few (codeAny_mono walked fun r s' done => ?_))
  match r, done with
  | .error er, done => exact pass pins σ _ _ er s' J done
  | .ok .next, done | .ok .brk, done | .ok .cont, done => exact done.elim
  | .ok (.ret u), ⟨v, H2, sameOs, bare, un, ok, rv, isNon, d, fs, atA, atD, freeD, want⟩ =>
    subst isNon
    obtain ⟨h2, g2, d2, t2, os'⟩ := s'
    obtain ⟨t0, G, J2, back, goneA, obj, off⟩ := mk_end0 (d2 := d2) (t2 := t2) I1 fits grows un ok sameOs bare atA atD freeD
    exact ⟨rv, _, _, _, ⟨G, g2, d2, t2, os'⟩, _, .ref C, some d, rfl, J2, back, goneA, obj, ⟨rfl, rfl, fun ws z => by cases z; rfl⟩, rfl, rfl, off, rfl, bare, raises_own T.exC T.tyC, want⟩
def sRz (c : Str) (ns : List Str) (as : DA) : DS := fun δ κ X T => as δ κ X fun xs κ1 => xs.length = ns.length ∧ xs.length ≤ 100 ∧ X δ c (xfl ns xs.reverse) κ1
section
variable {X : Cx} {W : WX} {k : Nat} {c : Str} {ns : List Str} {e : Expr} {es : List Expr} {as : DA} {p pos pos2 : Pos}
theorem sd_raise (G : Good (k + 2) X W) (O : ExOk X.prog X.w X.K X.mg X.base c ns) (hne : ns ≠ []) (ha : PAD X W (e :: es) as) (hgl : Gl X c := by rfl) (hdb : (c == ("__debug__" : Str)) = false := by decide)
    (he : starEach (e :: es) X.env = (false, eval e X.env) :: starEach es X.env := by rfl) (hpl : (backTo pos (starEach es X.env)).any (·.1) = false := by rfl) : PSD X W (.Raise (some (.Call (.Name c p) (e :: es) [] pos)) none pos2) (sRz c ns as) := by
  obtain ⟨ca, fI, fd, ps, sp, M, hg, hf⟩ := O
  refine ps_weak (L2N.ps_raise G.calm G.tk (pmk_oexN (ta := fun σ H Q => liftA (CtxOf X) W as σ H Q) M.ox M.ini M.ty M.fn (G.rm.mono (by omega : 2 ≤ k + 2)) M.bd (fun _ _ _ _ _ _ _ z => z.elim) hgl M.m ha hdb he hpl)) ?_
  rintro T σ H ⟨F, ρ, κ, δ, XD, DD, S, R, h, P, PX⟩
  refine ⟨F, ρ, κ, δ, XD, _, S, R, h, ?_, PX⟩
  rintro F1 ρ1 κ1 H1 xs vs e1 S1 R1 ⟨hn, h100, hX⟩
  have lv : vs.length = ns.length := by rw [← R1.length, hn]
  refine ⟨by rw [← R1.length]; omega, fun a na => ?_⟩
  rw [List.append_nil]
  refine hg a ca vs _ _ _ lv M.ox hf upd_same ⟨fun z => absurd z hne, fun _ dx hdx hda => ⟨rfl, dx, ns.zip vs.reverse, upd_same, by rw [upd_ne hda]; exact upd_same, by rw [upd_ne hda] at hdx; exact hdx, ?_⟩⟩
  have hdx' : H1 dx = none := by rw [upd_ne hda] at hdx; exact hdx
  obtain ⟨ex, S2⟩ := S1.laid (p := dx) (o := .xd (ns.zip vs.reverse)) hdx'
  have eH : upd (del (upd (upd (upd H1 a (exo a ca none)) dx (exd dx (ns.zip vs.reverse))) a (exo a ca (some dx))) a) dx (.xd (ns.zip vs.reverse)) = upd H1 dx (.xd (ns.zip vs.reverse)) := by
    funext b
    by_cases e1 : b = dx
    · rw [e1, upd_same, upd_same]
    · rw [upd_ne e1, upd_ne e1]
      by_cases e2 : b = a
      · rw [e2, del_same, na]
      · rw [del_ne e2, upd_ne e2, upd_ne e1, upd_ne e2]
  rw [eH]
  exact PX _ _ _ _ _ _ _ _ _ _ (e1.trans ex) S2 (R.ext (e1.trans ex)) ⟨⟨M.m, ca, rfl⟩, _, xfl_rep ((R1.ext ex).reverse), .inr ⟨dx, _, rfl, upd_same, rfl⟩⟩ hX
end
/-! ### except: the field of what was caught -/
def fldOf (f : Str) : List D → Option D
  | .str n :: d :: r => if n = f then some d else fldOf f r
  | _ => none
/-- which fields may be read of which caught class -/
def XfOk (K : PySem.W.Frag) (mg : Str → Option Value) (xf : Str → Str → Bool) : Prop := ∀ c f, xf c f = true → ∃ C, mg c = some (.ref C) ∧ XfC K C ∧ PySem.W.findIn K (.ref C) f = some none
theorem fldOf_lookup {C : Ctx} {F : Hp} {ρ : Loc0} {f : Str} : ∀ {fs : List (Str × V)} {ds : List D} {d : D}, RepL C F ρ ds (xflat fs) → fldOf f ds = some d → ∃ v, fs.lookup f = some v ∧ Rep C F ρ d v
  | [], _, _, .nil, h => by cases h
  | (n, v) :: fs, _, d, .cons (.str _) (.cons (d := d1) h1 t), h => by
    have h' : (if n = f then some d1 else fldOf f _) = some d := h
    by_cases e : n = f
    · rw [if_pos e] at h'
      cases h'
      exact ⟨v, by rw [e, List.lookup_cons]; simp, h1⟩
    · rw [if_neg e] at h'
      obtain ⟨w, h2, h3⟩ := fldOf_lookup t h'
      refine ⟨w, ?_, h3⟩
      rw [List.lookup_cons]
      have : (f == n) = false := by
        cases q : (f == n) with
        | false => rfl
        | true => exact absurd (eq_of_beq q).symm e
      rw [this]
      exact h2
/-- what a suite knows of the caught one -/
structure Caught (X : Cx) (a C : Addr) (dd : Option Addr) (oe : Obj) : Prop where
  z : L2N.Zn (.ref C) dd oe
  f : ∃ vs, oe.data = .fields vs
section
variable {X : Cx} {W : WX} {a C : Addr} {dd : Option Addr} {oe : Obj} {pn : List (Addr × Obj)} {x f : Str} {p pos : Pos} {i : Nat} {xf : Str → Str → Bool}
def dXf (xf : Str → Str → Bool) (i : Nat) (f : Str) (a C : Addr) (dd : Option Addr) : DE := fun δ κ _ QD => ∃ c fs d, δ[i]? = some (some (.node (.cau c a C dd) fs)) ∧ xf c f = true ∧ fldOf f fs = some d ∧ QD d κ
theorem pd_xf (T : XfOk X.K X.mg xf) (Z : Caught X a C dd oe) (hi : X.N[i]? = some x := by rfl) (hx : (X.env.scope.names.lookup x) = some .local := by rfl)
    (hdb : (x == ("__debug__" : Str)) = false := by decide) (hdc : (x == ("__classdict__" : Str)) = false := by decide) (hb : attributeBase (.Name x p) f X.env (eval (.Name x p) X.env) = eval (.Name x p) X.env := by rfl) :
    PED (X.suite a ((a, oe) :: pn)) W (.Attribute (.Name x p) f pos) (dXf xf i f a C dd) := by
  refine ⟨fun pins s σ H Q I ⟨F, ρ, κ, δ, XD, QD, S, R, ⟨c, fs, d, hδ, hxf, hfl, hQ⟩, P, PX⟩ => ?_⟩
  obtain ⟨C', h1, h2, h3⟩ := T c f hxf
  obtain ⟨v, hv, rv⟩ := R.2 i _ hδ
  cases rv with
  | @node _ _ a2 vs hk rl =>
    obtain ⟨e1, e2, e3⟩ := hk
    subst e1
    rw [show (CtxOf X).mg c = X.mg c from rfl, h1] at e2
    cases e2
    rcases e3 with ⟨e3, e4⟩ | ⟨d2, fs2, e3, e4, e5⟩
    · subst e4
      cases rl
      cases hfl
    · subst e5
      obtain ⟨w, hw, rw'⟩ := fldOf_lookup rl hfl
      exact (pe_xf (pn := pn) h2 h3 Z.z.zc Z.f (pe_var (X := X.suite a2 ((a2, oe) :: pn)) (i := i) (x := x) hi (.inl hx) hdb hdc) hb).run pins s σ H Q I ⟨_, hv, rfl, rfl, d2, fs2, w, e3, S.sub _ _ e4, hw, P _ _ _ _ _ _ (Ext.refl _ _) S rw' hQ⟩
end
end DL

/-! DLn: try, clauses with names and without. -/
namespace DL
open PySem PySem.Spec PyProof.Rows L2
/-- a clause: the class's value, the slot of its name, what its suite does -/
structure Hd where
  c : Value
  i : Option Nat
  ts : Addr → Value → Option Addr → TS
def endsG (D : Ends) (i : Nat) : Ends := { nx := fun τ G => D.nx (τ.set i none) G, rt := D.rt, bk := fun τ G => D.bk (τ.set i none) G, ct := fun τ G => D.ct (τ.set i none) G }
def Hd.go (h : Hd) (D : Ends) (a : Addr) (cls : Value) (d : Option Addr) (σ : L2.St) (H : Hp) : Prop := match h.i with
  | none => h.ts a cls d D σ H
  | some i => h.ts a cls d (endsG D i) (σ.set i (some (.ref a))) H
def wantG (K : PySem.W.Frag) (Wo : WX) (D : Ends) : List Hd → WX
  | [] => Wo
  | h :: l => fun cls d σ H => ∃ b, PySem.W.exmOne K cls h.c = some b ∧ (b = true → ∀ a, H a = none → h.go D a cls d σ H) ∧ (b = false → wantG K Wo D l cls d σ H)
/-- what is known of a clause's suite -/
def SuiteG (X : Cx) (suite : List Stmt) (ts : Addr → Value → Option Addr → TS) : Prop := ∀ (a : Addr) (oe : Obj) (cls : Value) (d : Option Addr) (pn : List (Addr × Obj)), L2N.Zn cls d oe → (∃ vs, oe.data = .fields vs) → PSs (X.suite a ((a, oe) :: pn)) suite (ts a cls d)
inductive HdsG (X : Cx) : List ExceptHandler → List Hd → Prop
  | nil : HdsG X [] []
  | one {x : Str} {c : Value} {ts : Addr → Value → Option Addr → TS} {s0 : Stmt} {suite : List Stmt} {q q' : Pos} {hds : List ExceptHandler} {l : List Hd} (n : Names X x c) (u : SuiteG X (s0 :: suite) ts) (r : HdsG X hds l) : HdsG X (.ExceptHandler (some (.Name x q)) none (s0 :: suite) q' :: hds) (⟨c, none, ts⟩ :: l)
  | asn {x y : Str} {c : Value} {i : Nat} {ts : Addr → Value → Option Addr → TS} {s0 : Stmt} {suite : List Stmt} {q q' : Pos} {hds : List ExceptHandler} {l : List Hd} (n : Names X x c) (hi : X.N[i]? = some y) (hk : X.env.kindOf y = some .local) (u : SuiteG X (s0 :: suite) ts) (r : HdsG X hds l) :
      HdsG X (.ExceptHandler (some (.Name x q)) (some y) (s0 :: suite) q' :: hds) (⟨c, some i, ts⟩ :: l)
section
variable {X : Cx} {body : List Stmt} {h0 : ExceptHandler} {hds : List ExceptHandler} {l : List Hd} {pos : Pos} {tb : WX → TS} {Wo : WX}
theorem ps_try_gen (stk : X.stack = X.env :: X.outer) (frm : X.env.frame = some X.env.locals) (dup : X.N.Nodup) (tk : L2N.Takes X Wo)
    (run : ∀ (W : WX) (ps : List (Addr × Obj)) (xe : Value → Shared → Prop), L2N.Takes (X.tr ps xe) W → PassesOwn (model X.prog X.w) X.A X.env xe → PSs (X.tr ps xe) body (tb W)) (hh : HdsG X (h0 :: hds) l) :
    PS X (.Try body (h0 :: hds) [] [] pos) (fun D σ H => tb (wantG X.K Wo D l) D σ H) := by
  refine ⟨fun qs s σ H D I want => ?_⟩
  have good := I.ok
  have frames : X.A.frames = some (X.env :: X.outer) := by rw [good.frames, stk]
  refine wpAny_Try_except (wpAny_mono ((run (wantG X.K Wo D l) (X.pn ++ qs) (fun ex t1 => wpAny (model X.prog X.w) X.A (noteFrame ex X.env) (fun _ t2 => wpAny (model X.prog X.w) X.A (setFlight ex none) (fun _ t3 =>
    wpAny (model X.prog X.w) X.A (handleBy ex X.env (h0 :: hds)) (SP X qs D) X.xe t3) X.xe t2) X.xe t1) (fun val t caught => ?_) PassesOwn.looking).run [] s σ H D (I.toTry _) want) (fun fl t1 done => ?_) fun _ _ z => z)
  · obtain ⟨a, B, t0, qs2, τ, G, cls, d, rfl, J2, inB, same, sky2, free, os2, bare2, todo⟩ := caught
    have J := J2.ofTry good
    rw [show (X.tr (X.pn ++ qs) _).stack = X.env :: X.outer from stk] at sky2
    show wpAny (model X.prog X.w) X.A (noteFrame (.ref a) X.env) _ _ _
    refine L2N.Sky.land L2N.Zn.steady frames frm sky2 fun hp3 fly same3 => ?_
    have J3 : L2.Inv X qs τ G { t with heap := hp3 } := J.landed inB fly.1 (same.trans same3) os2 bare2
    obtain ⟨ob3, fs3, at3, z3, dt3⟩ := fly.there
    have off : a ∉ frs (X.env :: X.outer) := fun hm => by
      obtain ⟨_, ob4, at4, no4⟩ := fly.2.2.1.mem hm
      rw [at3] at at4
      cases at4
      exact no4 _ dt3
    have offL : a ≠ X.env.locals := fun z => off (List.mem_filterMap.mpr ⟨_, List.mem_cons_self, frm.trans (congrArg some z.symm)⟩)
    have offF : a ∉ X.fs := fun hm => by
      obtain ⟨en, hen, q⟩ := List.mem_filterMap.mp hm
      exact off (List.mem_filterMap.mpr ⟨en, List.mem_cons_of_mem _ hen, q⟩)
    have S3 := J3.suite at3 dt3 free offL offF
    have onward : wantG X.K Wo D [] cls d τ G → wpAny (model X.prog X.w) X.A (handleBy (.ref a) X.env []) (SP X qs D) X.xe { t with heap := hp3 } := fun w => by
      refine wpAny_handleBy_nil ?_
      obtain ⟨_, _, _, ob, fs, T, _, _, atA, _, dtA, isT, _⟩ := id fly
      unfold PySem.passOn
      refine wpAny_bind (wpAny_field atA dtA isT ?_)
      rw [if_neg (show ¬ ((Value.ref T == Value.none) = true) from by simp)]
      have last : wpAny (model X.prog X.w) X.A (setFlight (.ref a) X.env.frame) (fun _ t4 => wpAny (model X.prog X.w) X.A (throw (.ref a) : Sem Flow) (SP X qs D) X.xe t4) X.xe { t with heap := hp3 } := by
        rw [frm]
        exact HandSPX.setFlight_upZ fly fun hp4 held same4 => wpAny_throw (tk _ _ ⟨a, B, t0, qs, τ, G, cls, d, rfl, J, inB, (same.trans same3).trans same4, .inr (.inr (by rw [stk]; exact held)), free, os2, bare2, w⟩)
      first
        | exact wpAny_bind (wpAny_pure (wpAny_bind last))
        | exact wpAny_bind last
    have reads : ∀ {x : Str} {c : Value} {q : Pos} {Q : Value → Shared → Prop} {E : Value → Shared → Prop}, Names X x c → Q c { t with heap := hp3 } → wpAny (model X.prog X.w) (X.A.mark (some (.ref a))) (eval (.Name x q) X.env) Q E { t with heap := hp3 } := fun {x c q Q E} hn hq => by
      obtain ⟨gl, nodbg, inM | ⟨notM, bv, nn⟩⟩ := hn
      · exact ld_glob (X := X.suite a ((a, ob3) :: (X.pn ++ qs))) S3 gl inM hq nodbg
      · exact ld_blt (X := X.suite a ((a, ob3) :: (X.pn ++ qs))) S3 gl notM bv hq nn nodbg
    have kind : PySem.W.Looks (model X.prog X.w) hp3 (typeOf (.ref a)) cls := fun A Q E t' kp q => wpAny_typeOf_ref (kp _ _ at3) (by rw [z3.1]; exact q)
    have go : ∀ {hs' : List ExceptHandler} {l' : List Hd}, HdsG X hs' l' → wantG X.K Wo D l' cls d τ G → wpAny (model X.prog X.w) X.A (handleBy (.ref a) X.env hs') (SP X qs D) X.xe { t with heap := hp3 } := by
      intro hs' l' hk
      induction hk with
      | nil => exact onward
      | @one x c ts s0 suite q q' hs2 l2 hn hu r ih =>
        rintro ⟨b, hb, yes, no⟩
        refine wpAny_handleBy_cons (codeAny_handlers_test (reads hn ((PySem.W.exm_one (M := model X.prog X.w) J3.kIn kind hb).here ?_))) (by intro z; cases z)
        cases b with
        | false => exact ih (no rfl)
        | true =>
          refine codeAny_handlers_suite (HandSPX.lands_againZ fly fun hp4 fly4 same4 => ?_)
          have J4 : L2.Inv X qs τ G { t with heap := hp4 } := J.landed inB fly4.1 ((same.trans same3).trans same4) os2 bare2
          obtain ⟨ob4, fs4, at4, z4, dt4⟩ := fly4.there
          have S4 := J4.suite at4 dt4 free offL offF
          refine wpAny_mono ((hu a ob4 cls d (X.pn ++ qs) z4 ⟨_, dt4⟩).run [] _ _ G _ S4 (yes rfl a free)) (fun fl t6 sp => ?_) (fun _ _ z => False.elim z)
          cases fl with
          | ret u =>
            obtain ⟨v6, τ6, G6, S6, r6, q6⟩ := sp
            exact ⟨_, _, _, S6.unsuite good, r6, q6⟩
          | next =>
            obtain ⟨τ6, G6, S6, q6⟩ := sp
            exact ⟨_, _, S6.unsuite good, q6⟩
          | brk =>
            obtain ⟨τ6, G6, S6, q6⟩ := sp
            exact ⟨_, _, S6.unsuite good, q6⟩
          | cont =>
            obtain ⟨τ6, G6, S6, q6⟩ := sp
            exact ⟨_, _, S6.unsuite good, q6⟩
      | @asn x y c i ts s0 suite q q' hs2 l2 hn hi hk hu r ih =>
        rintro ⟨b, hb, yes, no⟩
        refine wpAny_handleBy_cons (codeAny_handlers_test (reads hn ((PySem.W.exm_one (M := model X.prog X.w) J3.kIn kind hb).here ?_))) (by intro z; cases z)
        cases b with
        | false => exact ih (no rfl)
        | true =>
          refine codeAny_handlers_suite_as (HandSPX.lands_againZ fly fun hp4 fly4 same4 => ?_)
          have J4 : L2.Inv X qs τ G { t with heap := hp4 } := J.landed inB fly4.1 ((same.trans same3).trans same4) os2 bare2
          obtain ⟨ob4, fs4, at4, z4, dt4⟩ := fly4.there
          have S4 := J4.suite at4 dt4 free offL offF
          refine store_ok (X := X.suite a ((a, ob4) :: (X.pn ++ qs))) (v := .ref a) S4 dup hi (.inl hk) rfl (fun t5 S5 => ?_) (.inr hk)
          refine wpAny_mono ((hu a ob4 cls d (X.pn ++ qs) z4 ⟨_, dt4⟩).run [] t5 _ G _ S5 (yes rfl a free)) (fun fl t6 sp => ?_) (fun _ _ z => False.elim z)
          have off2 : ∀ {τ6 : L2.St} {G6 : Hp} {Q : Shared → Prop}, L2.Inv (X.suite a ((a, ob4) :: (X.pn ++ qs))) [] τ6 G6 t6 → (∀ t7, L2.Inv X qs (τ6.set i none) G6 t7 → Q t7) →
              wpAny (model X.prog X.w) X.A (do bindName X.env y .none; unbindBehindTheSuite X.env y q') (fun _ t7 => Q t7) X.xe t6 := fun S6 hq => gone_ok (S6.unsuite good) dup hi hk hq
          cases fl with
          | ret u =>
            obtain ⟨v6, τ6, G6, S6, r6, q6⟩ := sp
            exact off2 S6 fun t7 J7 => ⟨_, _, _, J7, r6, q6⟩
          | next =>
            obtain ⟨τ6, G6, S6, q6⟩ := sp
            exact off2 S6 fun t7 J7 => ⟨_, _, J7, q6⟩
          | brk =>
            obtain ⟨τ6, G6, S6, q6⟩ := sp
            exact off2 S6 fun t7 J7 => ⟨_, _, J7, q6⟩
          | cont =>
            obtain ⟨τ6, G6, S6, q6⟩ := sp
            exact off2 S6 fun t7 J7 => ⟨_, _, J7, q6⟩
    exact go hh todo
  · cases fl with
    | ret u =>
      obtain ⟨v, τ, G, J, r, q⟩ := done
      exact ⟨v, τ, G, J.ofTry good, r, q⟩
    | next =>
      obtain ⟨τ, G, J, q⟩ := done
      exact wpAny_execs_nil ⟨τ, G, J.ofTry good, q⟩
    | brk =>
      obtain ⟨τ, G, J, q⟩ := done
      exact ⟨τ, G, J.ofTry good, q⟩
    | cont =>
      obtain ⟨τ, G, J, q⟩ := done
      exact ⟨τ, G, J.ofTry good, q⟩
end
/-! ### try over data -/
/-- which exception is one of a clause's class -/
def XtOk (K : PySem.W.Frag) (mg : Str → Option Value) (xt : Str → Str → Option Bool) : Prop := ∀ c x b, xt c x = some b → ∃ C hv, mg c = some (.ref C) ∧ (mg x = some hv ∨ (mg x = none ∧ bootBuiltins x = some hv)) ∧ PySem.W.exmOne K (.ref C) hv = some b
abbrev HdD := Str × Option Nat × (Addr → Addr → Option Addr → DS)
def XN : DX := fun _ _ _ _ => False
def DEnds.un (T : DEnds) (i : Nat) : DEnds := { nx := fun δ κ => T.nx (δ.set i none) κ, rt := T.rt, bk := fun δ κ => T.bk (δ.set i none) κ, ct := fun δ κ => T.ct (δ.set i none) κ }
def hPick (xt : Str → Str → Option Bool) : List HdD → DX → DEnds → DX
  | [], X, _ => X
  | (x, o, s) :: r, X, T => fun δ c fs κ => ∃ b, xt c x = some b ∧ if b = true then ∀ a C dd, match o with
      | none => s a C dd δ κ XN T
      | some i => s a C dd (δ.set i (some (.node (.cau c a C dd) fs))) κ XN (T.un i)
    else hPick xt r X T δ c fs κ
def sTry (xt : Str → Str → Option Bool) (b : DS) (hs : List HdD) : DS := fun δ κ X T => b δ κ (hPick xt hs X T) T
def WN : WX := fun _ _ _ _ => False
def SuiteD (X : Cx) (suite : List Stmt) (s : Addr → Addr → Option Addr → DS) : Prop := ∀ (a C : Addr) (dd : Option Addr) (oe : Obj) (pn : List (Addr × Obj)), Caught X a C dd oe → PSsD (X.suite a ((a, oe) :: pn)) WN suite (s a C dd)
inductive HdsD (X : Cx) : List ExceptHandler → List HdD → Prop
  | nil : HdsD X [] []
  | one {x : Str} {hv : Value} {s : Addr → Addr → Option Addr → DS} {s0 : Stmt} {suite : List Stmt} {q q' : Pos} {hds : List ExceptHandler} {l : List HdD} (n : Names X x hv) (u : SuiteD X (s0 :: suite) s) (r : HdsD X hds l) : HdsD X (.ExceptHandler (some (.Name x q)) none (s0 :: suite) q' :: hds) ((x, none, s) :: l)
  | asn {x y : Str} {hv : Value} {i : Nat} {s : Addr → Addr → Option Addr → DS} {s0 : Stmt} {suite : List Stmt} {q q' : Pos} {hds : List ExceptHandler} {l : List HdD} (n : Names X x hv) (hi : X.N[i]? = some y) (hk : X.env.kindOf y = some .local) (u : SuiteD X (s0 :: suite) s) (r : HdsD X hds l) :
      HdsD X (.ExceptHandler (some (.Name x q)) (some y) (s0 :: suite) q' :: hds) ((x, some i, s) :: l)
def tsD (X : Cx) (s : Addr → Addr → Option Addr → DS) : Addr → Value → Option Addr → TS := fun a cls d D σ H => ∃ C, cls = .ref C ∧ liftS (CtxOf X) WN (s a C d) D σ H
theorem suite_g {X : Cx} {suite : List Stmt} {s : Addr → Addr → Option Addr → DS} (u : SuiteD X suite s) : SuiteG X suite (tsD X s) := fun a oe cls d pn hz hf => ⟨fun ps sh σ H D I ⟨C, e, q⟩ => by
  subst e
  exact (u a C d oe pn ⟨hz, hf⟩).run ps sh σ H D I q⟩
theorem postE_un {C : Ctx} {F : Hp} {ρ : Loc0} {DD : DEnds} {T : Ends} (P : PostE C F ρ DD T) (i : Nat) : PostE C F ρ (DD.un i) (endsG T i) :=
  ⟨fun _ _ _ _ _ _ e S R q => P.nx _ _ _ _ _ _ e S (R.unset i) q, P.rt, fun _ _ _ _ _ _ e S R q => P.bk _ _ _ _ _ _ e S (R.unset i) q, fun _ _ _ _ _ _ e S R q => P.ct _ _ _ _ _ _ e S (R.unset i) q⟩
theorem hds_g {X : Cx} {xt : Str → Str → Option Bool} {W : WX} (T : XtOk X.K X.mg xt) : ∀ {hds : List ExceptHandler} {l : List HdD}, HdsD X hds l → ∃ lg, HdsG X hds lg ∧ ∀ (F : Hp) (ρ : Loc0) (XD : DX) (DD : DEnds) (D : Ends), PostE (CtxOf X) F ρ DD D → PostX (CtxOf X) F ρ XD W →
    PostX (CtxOf X) F ρ (hPick xt l XD DD) (wantG X.K W D lg)
  | _, _, .nil => ⟨[], .nil, fun F ρ XD DD D _ PX => PX⟩
  | _, _, .one (x := x) (hv := hv) (s := s) n u r => by
    obtain ⟨lg, h1, h2⟩ := hds_g T r
    refine ⟨_, .one n (suite_g u) h1, fun F ρ XD DD D P PX F' ρ' κ' H' δ σ c fs cls dd e S R rx q => ?_⟩
    obtain ⟨b, hb, q⟩ := q
    obtain ⟨C, hv', m1, m2, m3⟩ := T c x b hb
    obtain ⟨⟨m4, C', rfl⟩, _⟩ := id rx
    rw [show (CtxOf X).mg c = X.mg c from rfl, m1] at m4
    cases m4
    have ev : hv' = hv := by
      obtain ⟨_, _, m5 | ⟨m5, m6, _⟩⟩ := n
      · rcases m2 with m2 | ⟨m2, _⟩
        · exact Option.some.inj (m2.symm.trans m5)
        · rw [m5] at m2; cases m2
      · rcases m2 with m2 | ⟨_, m2⟩
        · rw [m5] at m2; cases m2
        · exact Option.some.inj (m2.symm.trans m6)
    subst ev
    refine ⟨b, m3, fun hb1 a na => ?_, fun hb0 => ?_⟩
    · rw [if_pos hb1] at q
      exact ⟨C, rfl, F', ρ', κ', δ, XN, DD, S, R, q a C dd, P.ext e, fun _ _ _ _ _ _ _ _ _ _ _ _ _ _ z => z.elim⟩
    · rw [if_neg (by rw [hb0]; decide)] at q
      exact h2 F ρ XD DD D P PX _ _ _ _ _ _ _ _ _ _ e S R rx q
  | _, _, .asn (x := x) (hv := hv) (i := i) (s := s) n hi hk u r => by
    obtain ⟨lg, h1, h2⟩ := hds_g T r
    refine ⟨_, .asn n hi hk (suite_g u) h1, fun F ρ XD DD D P PX F' ρ' κ' H' δ σ c fs cls dd e S R rx q => ?_⟩
    obtain ⟨b, hb, q⟩ := q
    obtain ⟨C, hv', m1, m2, m3⟩ := T c x b hb
    obtain ⟨⟨m4, C', rfl⟩, vs, rl, hd⟩ := id rx
    rw [show (CtxOf X).mg c = X.mg c from rfl, m1] at m4
    cases m4
    have ev : hv' = hv := by
      obtain ⟨_, _, m5 | ⟨m5, m6, _⟩⟩ := n
      · rcases m2 with m2 | ⟨m2, _⟩
        · exact Option.some.inj (m2.symm.trans m5)
        · rw [m5] at m2; cases m2
      · rcases m2 with m2 | ⟨_, m2⟩
        · rw [m5] at m2; cases m2
        · exact Option.some.inj (m2.symm.trans m6)
    subst ev
    refine ⟨b, m3, fun hb1 a na => ?_, fun hb0 => ?_⟩
    · rw [if_pos hb1] at q
      refine ⟨C, rfl, F', ρ', κ', _, XN, _, S, R.set (.node (k := .cau c a C dd) ⟨rfl, m1, ?_⟩ rl) i, q a C dd, postE_un (P.ext e) i, fun _ _ _ _ _ _ _ _ _ _ _ _ _ _ z => z.elim⟩
      rcases hd with ⟨z1, z2⟩ | ⟨d, ns, z1, z2, z3⟩
      · exact .inl ⟨z2, z1⟩
      · exact .inr ⟨d, ns, z1, z2, z3⟩
    · rw [if_neg (by rw [hb0]; decide)] at q
      exact h2 F ρ XD DD D P PX _ _ _ _ _ _ _ _ _ _ e S R rx q
section
variable {X : Cx} {body : List Stmt} {h0 : ExceptHandler} {hds : List ExceptHandler} {l : List HdD} {pos : Pos} {b : DS} {W : WX} {k : Nat} {xt : Str → Str → Option Bool}
theorem sd_try (G : Good k X W) (T : XtOk X.K X.mg xt) (run : ∀ (W' : WX) (ps : List (Addr × Obj)) (xe : Value → Shared → Prop), Good k (X.tr ps xe) W' → PSsD (X.tr ps xe) W' body b) (hh : HdsD X (h0 :: hds) l)
    (stk : X.stack = X.env :: X.outer := by rfl) (frm : X.env.frame = some X.env.locals := by rfl) : PSD X W (.Try body (h0 :: hds) [] [] pos) (sTry xt b l) := by
  obtain ⟨lg, h1, h2⟩ := hds_g (W := W) T hh
  refine ps_weak (ps_try_gen (tb := fun W' => liftS (CtxOf X) W' b) stk frm G.nd G.tk (fun W' ps xe tk po => run W' ps xe ⟨tk, po, G.rm, G.gd, G.sm, G.calm, G.nd⟩) h1) ?_
  rintro D σ H ⟨F, ρ, κ, δ, XD, DD, S, R, q, P, PX⟩
  exact ⟨F, ρ, κ, δ, _, DD, S, R, q, P, h2 F ρ XD DD D P PX⟩
end
end DL

/-! DLo: stores into dicts, list.index. -/
namespace DL
open PySem PySem.Spec PyProof.Rows L2
def hasKey (ks : List Key) (k : Key) : Bool := ks.any fun k' => decide (k' = k)
def putKs (ks : List Key) (k : Key) : List Key := if hasKey ks k = true then ks else ks ++ [k]
def putVs {α : Type} (ks : List Key) (xs : List α) (k : Key) (d : α) : List α := if hasKey ks k = true then List.zipWith (fun k' x => if k' = k then d else x) ks xs else xs ++ [d]
theorem zipW_rep {C : Ctx} {F : Hp} {ρ : Loc0} {d : D} {v : V} {k : Key} (r : Rep C F ρ d v) : ∀ {ks : List Key} {xs : List D} {vs : List V}, RepL C F ρ xs vs → RepL C F ρ (List.zipWith (fun k' x => if k' = k then d else x) ks xs) (List.zipWith (fun k' x => if k' = k then v else x) ks vs)
  | [], _, _, _ => .nil
  | _ :: _, _, _, .nil => .nil
  | k' :: ks, _, _, .cons h t => .cons (by
      show Rep C F ρ (if k' = k then d else _) (if k' = k then v else _)
      by_cases e : k' = k
      · rw [if_pos e, if_pos e]; exact r
      · rw [if_neg e, if_neg e]; exact h) (zipW_rep r t)
theorem putV_rep {C : Ctx} {F : Hp} {ρ : Loc0} {d : D} {v : V} {k : Key} {ks : List Key} {xs : List D} {vs : List V} (r : Rep C F ρ d v) (h : RepL C F ρ xs vs) : RepL C F ρ (putVs ks xs k d) (putVs ks vs k v) := by
  unfold putVs
  split
  · exact zipW_rep r h
  · exact h.append (.cons r .nil)
theorem any_key (kvs : List (Key × V)) (k : Key) : (kvs.any fun kv => decide (kv.1 = k)) = hasKey (kvs.map (·.1)) k := by
  unfold hasKey
  rw [List.any_map]
  rfl
theorem putK_parts (kvs : List (Key × V)) (k : Key) (v : V) : (putK kvs k v).map (·.1) = putKs (kvs.map (·.1)) k ∧ (putK kvs k v).map (·.2) = putVs (kvs.map (·.1)) (kvs.map (·.2)) k v := by
  unfold putK putKs putVs
  rw [any_key]
  by_cases h : hasKey (kvs.map (·.1)) k = true
  · rw [if_pos h, if_pos h, if_pos h]
    clear h
    induction kvs with
    | nil => exact ⟨rfl, rfl⟩
    | cons p r ih =>
      obtain ⟨i1, i2⟩ := ih
      by_cases e : p.1 = k
      · refine ⟨?_, ?_⟩
        · rw [List.map_cons, List.map_cons, List.map_cons, i1, if_pos e]
        · rw [List.map_cons, List.map_cons, List.map_cons, List.map_cons, List.zipWith_cons_cons, i2, if_pos e, if_pos e]
      · refine ⟨?_, ?_⟩
        · rw [List.map_cons, List.map_cons, List.map_cons, i1, if_neg e]
        · rw [List.map_cons, List.map_cons, List.map_cons, List.map_cons, List.zipWith_cons_cons, i2, if_neg e, if_neg e]
  · rw [if_neg h, if_neg h, if_neg h]
    rw [List.map_append, List.map_append]
    exact ⟨rfl, rfl⟩
def keyO : D → Option Key
  | .int i => some (.inl i)
  | .str x => some (.inr x)
  | _ => none
theorem keyO_rep {C : Ctx} {F : Hp} {ρ : Loc0} {d : D} {v : V} {k : Key} (r : Rep C F ρ d v) (h : keyO d = some k) : v = kV k := by
  cases r <;> first | (cases h; rfl) | cases h
/-- d[k] = v of a dict that is a cell -/
def fSetD : D → D → D → Kap → (Kap → Prop) → Prop := fun o i d κ Q => ∃ n ks xs k, o = .cell n ∧ κ n = some (.live (.dct ks) xs) ∧ keyO i = some k ∧ ks.length < sizeLine ∧ Q (kset κ n (.live (.dct (putKs ks k)) (putVs ks xs k d)))
section
variable {X : Cx} {W : WX} {k : Nat} {e1 e2 : Expr} {a b : DE} {pos : Pos}
theorem pg_subDD (G : Good k X W) (ho : PED X W e1 a) (hi : PED X W e2 b)
    (ha : ∀ v, assign (.Subscript e1 e2 pos) X.env v = (do
      let ov ← holding [v] (eval e1 X.env)
      let iv ← holding [v, ov] (eval e2 X.env)
      standAt pos
      holding [v, ov, iv] (setItem ov iv v)
      release [v, ov, iv] []) := by intro _; rfl) : PGD X W (.Subscript e1 e2 pos) (gSubD a b fSetD) :=
  pg_weak (pg_sub ho hi (set_dict (by have := G.rm.un; omega)) ha) fun v σ H Q ⟨F, ρ, κ, δ, d, XD, QD, S, R, rr, h, P, PX⟩ =>
  ⟨F, ρ, κ, δ, XD, _, S, R, h, fun F1 ρ1 κ1 H1 x u e1 S1 R1 h1 => ⟨F1, ρ1, κ1, δ, XD, _, S1, R.ext e1, h1, fun F2 ρ2 κ2 H2 y w e2 S2 R2 h2 => by
    obtain ⟨n, ks, xs, k, rfl, h3, h4, h5, h6⟩ := h2
    have e12 := e1.trans e2
    obtain ⟨p, vs, rfl, hr, ⟨kvs, g1, g2, g3⟩, rl⟩ := cell_at S2 (R1.ext e2) h3
    have ek := keyO_rep R2 h4
    subst ek g2 g3
    obtain ⟨z1, z2⟩ := putK_parts kvs k v
    refine ⟨p, _, rfl, DPut.k g1 (by rw [List.length_map] at h5; exact h5), ?_⟩
    exact P _ _ _ _ _ _ e12 (S2.write (k' := .dct (putKs (kvs.map (·.1)) k)) (o := .dK (putK kvs k v)) h3 hr (fun H' q => ⟨_, q, z1, z2⟩) (putV_rep (rr.ext e12) rl)) (R.ext e12) h6, PX.ext e1⟩, PX⟩
end
/-! ### list.index of truths -/
def fIndexB : D1N := fun x ds κ Q => ∃ (bs : List Bool) (b : Bool) (j : Nat), x = .node .lst (bs.map D.bl) ∧ ds = [.bl b] ∧ bs[j]? = some b ∧ (∀ m, m < j → bs[m]? ≠ some b) ∧ Q (.int (j : Nat)) κ
theorem sim_indexB {C : Ctx} : Sim1N C fIndexB (rIndex C.K) := by
  intro F ρ κ H x v ds vs QD Q S rx rd h P
  obtain ⟨bs, b, j, rfl, rfl, h1, h2, h3⟩ := h
  obtain ⟨a, ws, rfl, hk, rl⟩ := view_at S rx rfl
  have e := rl.bls
  subst e
  obtain ⟨w, rfl, rw'⟩ := repL1 rd
  cases rw'
  refine ⟨a, _, _, j, .bl b, rfl, rfl, SqL.of hk, rfl, ?_, by rw [List.getElem?_map, h1]; rfl, by cases b <;> rfl, fun m z' hm hz => ?_, P _ _ _ _ _ _ (Ext.refl _ _) S (.int _) h3⟩
  · rw [List.all_map]
    exact List.all_eq_true.mpr fun _ _ => rfl
  · rw [List.getElem?_map] at hz
    cases q : bs[m]? with
    | none => rw [q] at hz; cases hz
    | some c =>
      rw [q] at hz
      cases hz
      have := h2 m hm
      rw [q] at this
      cases b <;> cases c <;> first | rfl | exact absurd rfl this
section
variable {X : Cx} {W : WX} {o e : Expr} {es : List Expr} {a : DE} {as : DA} {apos cpos : Pos}
theorem pd_indexB (ho : PED X W o a) (ha : PAD X W (e :: es) as) (hbase : attributeBase o "index" X.env (eval o X.env) = eval o X.env := by rfl)
    (hfew : ((backTo cpos (starEach (e :: es) X.env)).all (fun x => !x.1) && (backToKw cpos (keywordEach [] X.env)).all (fun x => x.1.isSome) && decide ((e :: es).length + ([] : List Keyword).length + (if ([] : List Keyword).isEmpty then 0 else 1) < 30)) = true := by rfl)
    (hline : (apos.endLine == cpos.line) = true := by rfl) (hs : starEach (e :: es) X.env = (false, eval e X.env) :: starEach es X.env := by rfl) (hplain : (backTo cpos (starEach es X.env)).any (·.1) = false := by rfl) :
    PED X W (.Call (.Attribute o "index" apos) (e :: es) [] cpos) (dBM "list" fIndexB a as) :=
  pe_weak (pe_bm PySem.F.plainAttrs_list PySem.F.slot_list_index PySem.F.type_list_index mt_index ho ha hbase hfew hline hs hplain) fun _ _ _ => lift_bm sim_indexB
end
/-! ### tables of exceptions -/
def xtOf (tab : List (Str × Str × Bool)) (c x : Str) : Option Bool := (tab.find? fun r => decide (r.1 = c) && decide (r.2.1 = x)).map (·.2.2)
theorem xtOk_of {K : PySem.W.Frag} {mg : Str → Option Value} {tab : List (Str × Str × Bool)} (h : ∀ r ∈ tab, ∃ C hv, mg r.1 = some (.ref C) ∧ (mg r.2.1 = some hv ∨ (mg r.2.1 = none ∧ bootBuiltins r.2.1 = some hv)) ∧ PySem.W.exmOne K (.ref C) hv = some r.2.2) : XtOk K mg (xtOf tab) := by
  intro c x b e
  unfold xtOf at e
  cases q : tab.find? fun r => decide (r.1 = c) && decide (r.2.1 = x) with
  | none => rw [q] at e; cases e
  | some r =>
    rw [q] at e
    cases e
    have hp := List.find?_some q
    have hm := List.mem_of_find?_eq_some q
    rw [Bool.and_eq_true_iff, decide_eq_true_iff, decide_eq_true_iff] at hp
    obtain ⟨rfl, rfl⟩ := hp
    exact h r hm
def xfOf (tab : List (Str × Str)) (c f : Str) : Bool := tab.any fun r => decide (r.1 = c) && decide (r.2 = f)
theorem xfOk_of {K : PySem.W.Frag} {mg : Str → Option Value} {tab : List (Str × Str)} (h : ∀ r ∈ tab, ∃ C, mg r.1 = some (.ref C) ∧ XfC K C ∧ PySem.W.findIn K (.ref C) r.2 = some none) : XfOk K mg (xfOf tab) := by
  intro c f e
  unfold xfOf at e
  obtain ⟨r, hm, hp⟩ := List.any_eq_true.mp e
  rw [Bool.and_eq_true_iff, decide_eq_true_iff, decide_eq_true_iff] at hp
  obtain ⟨rfl, rfl⟩ := hp
  exact h r hm
theorem exm_of {K : PySem.W.Frag} {cls : Value} {C : Addr} {b : Bool} (h1 : PySem.W.subIn K (.ref C) (.type "BaseException") = some true) (h2 : PySem.W.kitOne K (.type "int") (.ref C) = some false) (h3 : PySem.W.subIn K cls (.ref C) = some b) : PySem.W.exmOne K cls (.ref C) = some b := by
  have h4 : PySem.W.kitCls K (.type "int") (.ref C) = some false := h2
  unfold PySem.W.exmOne
  rw [h1]
  unfold PySem.W.kitCls at h4 ⊢
  dsimp only at h4 ⊢
  split at h4
  · rename_i hc
    rw [if_pos hc]
    exact h3
  · cases h4
theorem exm_ofT {K : PySem.W.Frag} {cls : Value} {T : String} {b : Bool} (h1 : PySem.W.subIn K (.type T) (.type "BaseException") = some true) (h2 : PySem.W.kitMeta T = true) (h3 : PySem.W.subIn K cls (.type T) = some b) : PySem.W.exmOne K cls (.type T) = some b := by
  unfold PySem.W.exmOne
  rw [h1]
  unfold PySem.W.kitCls
  dsimp only
  rw [if_pos h2]
  exact h3
/-! ### steps -/
section
variable {δ : DEnv} {κ : Kap} {X : DX} {Q : DQ} {as : DA} {b : DS} {c f : Str} {ns : List Str} {xs fs : List D} {T : DEnds} {xt : Str → Str → Option Bool} {xf : Str → Str → Bool} {hs : List HdD} {x : Str} {o : Option Nat} {s : Addr → Addr → Option Addr → DS} {i : Nat}
theorem s_rz (h : as δ κ X fun xs κ1 => xs.length = ns.length ∧ xs.length ≤ 100 ∧ X δ c (xfl ns xs.reverse) κ1) : sRz c ns as δ κ X T := h
theorem s_rz3 {Y : Str → List D → Kap → Prop} (h1 : xs.length = ns.length) (h2 : xs.length ≤ 100) (h3 : xfl ns xs.reverse = fs) (h : Y c fs κ) : xs.length = ns.length ∧ xs.length ≤ 100 ∧ Y c (xfl ns xs.reverse) κ := ⟨h1, h2, by rw [h3]; exact h⟩
theorem g_set {d : D} {δ' : DEnv} {QG : DEnv → Kap → Prop} (e : δ.set i (some d) = δ') (h : QG δ' κ) : gN i d δ κ X QG := by
  subst e
  exact h
theorem s_try (h : b δ κ (hPick xt hs X T) T) : sTry xt b hs δ κ X T := h
theorem hp_no (e : xt c x = some false) (h : hPick xt hs X T δ c fs κ) : hPick xt ((x, o, s) :: hs) X T δ c fs κ := ⟨false, e, by rw [if_neg (by decide)]; exact h⟩
theorem hp_one (e : xt c x = some true) (h : ∀ a C dd, s a C dd δ κ XN T) : hPick xt ((x, none, s) :: hs) X T δ c fs κ := ⟨true, e, by rw [if_pos rfl]; exact h⟩
theorem hp_as {n : DEnv → Kap → Prop} {rt : DQ} {bk ct : DEnv → Kap → Prop} (e : xt c x = some true) (h : ∀ a C dd, s a C dd (δ.set i (some (.node (.cau c a C dd) fs))) κ XN ⟨fun δ κ => n (δ.set i none) κ, rt, fun δ κ => bk (δ.set i none) κ, fun δ κ => ct (δ.set i none) κ⟩) : hPick xt ((x, some i, s) :: hs) X ⟨n, rt, bk, ct⟩ δ c fs κ := ⟨true, e, by rw [if_pos rfl]; exact h⟩
theorem fld_1 {n : Str} {d : D} {r : List D} : fldOf n (.str n :: d :: r) = some d := by
  show (if n = n then some d else _) = _
  rw [if_pos rfl]
theorem fld_2 {n m : Str} {d e : D} {r : List D} (h : m ≠ n) (q : fldOf n r = some e) : fldOf n (.str m :: d :: r) = some e := by
  show (if m = n then some d else _) = _
  rw [if_neg h]
  exact q
theorem e_xf {a C : Addr} {dd : Option Addr} {d : D} (e : δ[i]? = some (some (.node (.cau c a C dd) fs))) (h1 : xf c f = true) (h2 : fldOf f fs = some d) (h : Q d κ) : dXf xf i f a C dd δ κ X Q := ⟨c, fs, d, e, h1, h2, h⟩
end
end DL

/-! DLp: tuples that stand in the globals, three at once, == in a suite. -/
namespace DL
open PySem PySem.Spec PyProof.Rows L2
/-- a tuple that the top has left -/
def TupK (K : PySem.W.Frag) (a : Addr) (vs : List V) : Prop := ∃ (o : Obj) (its : Array Value) (n : Nat), K.lookup a = some o ∧ o.cls = .type "tuple" ∧ o.data = .seq its n ∧ its.size ≤ sizeLine ∧ Vals vs its.toList
theorem tupK_of {K : PySem.W.Frag} {a : Addr} {vs : List V} {its : List Value} {dd : Option Addr} {n : Nat} {sl : Array (Option Value)} (l : K.lookup a = some ⟨.type "tuple", dd, .seq its.toArray n, sl⟩) (hl : its.length ≤ 16777216) (r : Vals vs its) : TupK K a vs :=
  ⟨_, its.toArray, n, l, rfl, rfl, by rw [List.size_toArray]; exact hl, r⟩
theorem TupK.rep {K : PySem.W.Frag} {mg : Str → Option Value} {a : Addr} {vs : List V} {ds : List D} (h : TupK K a vs) {F : Hp} {ρ : Loc0} (r : RepL ⟨K, mg⟩ F ρ ds vs) : Rep ⟨K, mg⟩ F ρ (.node .tup ds) (.ref a) := .node (k := .tup) (.inr h) r
section
variable {X : Cx} {W : WX} {k : Nat} {x : Str} {p pos : Pos} {vs : List V} {ds : List D}
theorem pd_glbTup (hm : ∃ a, X.mg x = some (.ref a) ∧ TupK X.K a vs) (r : ∀ F ρ, RepL (CtxOf X) F ρ ds vs) (hg : Gl X x := by rfl) (hdb : (x == ("__debug__" : Str)) = false := by decide) : PED X W (.Name x p) (dC (.node .tup ds)) := by
  obtain ⟨a, hm, ht⟩ := hm
  refine ⟨fun pins s σ H Q I ⟨F, ρ, κ, δ, XD, QD, S, R, h, P, PX⟩ => ?_⟩
  exact ld_glob I hg hm ⟨.ref a, H, I, rfl, P _ _ _ _ _ _ (Ext.refl _ _) S (ht.rep (r _ _)) h⟩ hdb
end
def sPar3 (i j l : Nat) (as : DA) : DS := fun δ κ X T => as δ κ X fun ds κ1 => ∃ x y z, ds = [x, y, z] ∧ T.nx (((δ.set i (some x)).set j (some y)).set l (some z)) κ1
section
variable {X : Cx} {W : WX} {k : Nat} {e1 e2 e3 : Expr} {st : Stmt} {as : DA} {a b : DE} {pos : Pos}
theorem repL3 {C : Ctx} {F : Hp} {ρ : Loc0} {x y z : D} {vs : List V} (r : RepL C F ρ [x, y, z] vs) : ∃ u v w, vs = [u, v, w] ∧ Rep C F ρ x u ∧ Rep C F ρ y v ∧ Rep C F ρ z w := by
  cases r with
  | cons h1 r =>
    cases r with
    | cons h2 r =>
      cases r with
      | cons h3 r =>
        cases r
        exact ⟨_, _, _, rfl, h1, h2, h3⟩
theorem sd_par3 (i j l : Nat) (hp : ∀ ta, PA X [e1, e2, e3] ta → PS X st (tPar3 i j l ta)) (ha : PAD X W [e1, e2, e3] as) : PSD X W st (sPar3 i j l as) := ps_weak (hp _ ha) fun T σ H ⟨F, ρ, κ, δ, XD, DD, S, R, h, P, PX⟩ =>
  ⟨F, ρ, κ, δ, XD, _, S, R, h, fun F1 ρ1 κ1 H1 ds vs e1 S1 R1 ⟨x, y, z, h0, h1⟩ => by
    subst h0
    obtain ⟨u, v, w, rfl, rx, ry, rz⟩ := repL3 R1
    exact ⟨u, v, w, rfl, P.nx _ _ _ _ _ _ e1 S1 ((((R.ext e1).set rx i).set ry j).set rz l) h1⟩, PX⟩
/-- what == leans on, in a suite too -/
structure Gs (X : Cx) : Prop where
  un : X.A.units + 64 < cLine
  sm : ∃ o, X.base.get? sysModules = some o
theorem Good.gs (g : Good k X W) : Gs X := ⟨by have := g.rm.un; omega, g.sm⟩
theorem Gs.suite {a : Addr} {pn : List (Addr × Obj)} (g : Gs X) : Gs (X.suite a pn) := ⟨g.un, g.sm⟩
theorem op_eqS (g : Gs X) : OpR X (compareOp .Eq) (rDat (CtxOf X) PyData.eqv) := by
  intro pins s σ H x y v u Q I rx ry ⟨F, ρ, κ, dx, dy, p, q, S, r1, r2, h1, h2, h3, h4, h5⟩
  obtain ⟨as, q1, _⟩ := Pd.reads I (Inv.sysm I g.sm) S h1 r1 rx
  obtain ⟨bs, q2, _⟩ := Pd.reads I (Inv.sysm I g.sm) S h2 r2 ry
  exact SeqAt.compareEq_shaped q1 q2 h3 h4 g.un ⟨.bl _, H, I, rfl, h5⟩
theorem pd_eqS (g : Gs X) (ha : PED X W e1 a) (hb : PED X W e2 b) : PED X W (.Compare e1 [.Eq] [e2] pos) (dOp fEq a b) := pd_cmp (op_eqS g) sim_dat ha hb
end
/-! steps -/
section
variable {δ : DEnv} {κ : Kap} {X : DX} {as : DA} {x y z : D} {n : DEnv → Kap → Prop} {rt : DQ} {bk ct : DEnv → Kap → Prop}
theorem s_par3 {i j l : Nat} (h : as δ κ X fun ds κ1 => ∃ x y z, ds = [x, y, z] ∧ n (((δ.set i (some x)).set j (some y)).set l (some z)) κ1) : sPar3 i j l as δ κ X ⟨n, rt, bk, ct⟩ := h
theorem x_par3 {P : D → D → D → Prop} (h : P x y z) : ∃ u v w, [x, y, z] = [u, v, w] ∧ P u v w := ⟨x, y, z, rfl, h⟩
end
end DL

/-! DMc: list comprehensions with several for clauses. -/
namespace DL
open PySem PySem.Spec PyProof.Rows L2
/-- what one turn of a clause's loop is -/
def TurnIs (code : Expr) (k : Nat) (p : Pos) (tg : Expr) (ifs : List Expr) (bodyK : Value → Env → Sem PySem.Fin → Sem PySem.Fin) : Prop := ∀ it acc env, compTurn code k it acc env = (do
  standAt p
  match ← pyNext it with
  | none => pure (.done .next)
  | some v =>
    letOwnedTupleGo tg it v
    assign tg env v
    let mut ok := true
    for c in ifs do
      if ok then ok ← isTrue c env (eval c env)
    if ok then bodyK acc env (again (.compLoop code k it acc env)) else again (.compLoop code k it acc env))
structure BodyOk (Y : Cx) (bodyK : Sem PySem.Fin → Sem PySem.Fin) (vsI : List Nat) (tk : L2.St → Hp → (Hp → Prop) → Prop) : Prop where
  run : ∀ (pins : List (Addr × Obj)) (σ : L2.St) (H : Hp) (s : Shared) (Nx : Hp → Prop) (r : Sem PySem.Fin) (Q : PySem.Fin → Shared → Prop) (E : Value → Shared → Prop), L2.Inv Y pins σ H s → tk σ H Nx →
    (∀ s' σ' H', L2.Inv Y pins σ' H' s' → σ'.length = σ.length → (∀ (j : Nat) v, (wipe σ vsI)[j]? = some (some v) → σ'[j]? = some (some v)) → Nx H' → wpAny (model Y.prog Y.w) Y.A r Q E s') → wpAny (model Y.prog Y.w) Y.A (bodyK r) Q E s
def clW (g : TG) (tt : TT) (tk : L2.St → Hp → (Hp → Prop) → Prop) (vs : List Nat) (J : It) (σ : L2.St) (W : Nat → Nat → Hp → Prop) (Nx : Hp → Prop) : Prop := ∀ j m H, W j m H → (J.stop j H ∧ Nx H) ∨ (J.go j H ∧ ∃ Nx1 : Hp → Prop, (∀ H', Nx1 H' → ∃ m', m' < m ∧ W (j + 1) m' H') ∧
  ∀ x H', J.yld j H x H' → g x (wipe σ vs) H' fun σ3 H5 => wipe σ3 vs = wipe σ vs ∧ tt σ3 H5 fun b H6 => if b = true then tk σ3 H6 Nx1 else Nx1 H6)
section
variable {Y : Cx} {elt0 tg : Expr} {gs : List Comprehension} {scope : Scope} {lpos : Pos} {ifs : List Expr} {k : Nat} {p : Pos} {bodyK : Value → Env → Sem PySem.Fin → Sem PySem.Fin} {g : TG} {tt : TT} {tk : L2.St → Hp → (Hp → Prop) → Prop} {vs vsI : List Nat} {D : Addr}
theorem loop_ok (hx : ∀ e s, ¬ Y.xe e s) (hc : Y.calm = true) (hk : TurnIs (.ListComp elt0 gs scope lpos) k p tg ifs bodyK) (pg : PG Y tg g) (pt : PTs Y ifs tt) (bo : BodyOk Y (bodyK (.ref D) Y.env) vsI tk) (hv : ∀ i ∈ vsI, i ∈ vs)
    {pins : List (Addr × Obj)} {σ : L2.St} {H : Hp} {s : Shared} {it : Addr} {fp : List Addr} {tn : Nat → Heap → Prop} {J : It} {W : Nat → Nat → Hp → Prop} {m : Nat} {Nx : Hp → Prop}
    (T : Turn Y.prog Y.w Y.K tg J fp it tn) (st : tn 0 s.heap) (n0 : ∀ b ∈ fp, H b = none) (hfp : ∀ {σ' : L2.St} {H' : Hp} {s' : Shared}, L2.Inv Y pins σ' H' s' → (∀ b ∈ fp, H' b = none) → ∀ b ∈ fp, FpOk Y pins H' b) (I : L2.Inv Y pins σ H s) (w0 : W 0 m H) (turn : clW g tt tk vs J σ W Nx) :
    codeAny (model Y.prog Y.w) Y.A (.compLoop (.ListComp elt0 gs scope lpos) k (.ref it) (.ref D) Y.env) (fun r s' => match r with
      | .ok _ => ∃ H', L2.Inv Y pins (wipe σ vs) H' s' ∧ Nx H'
      | .error _ => False) s := by
  refine codeAny_loop rfl (fun n s' => ∃ j H', L2.Inv Y pins (wipe σ vs) H' s' ∧ tn j s'.heap ∧ (∀ b ∈ fp, H' b = none) ∧ W j n H') (fun n s1 hI => ?_) m ⟨0, H, I.weak (wipe_length _ _) (fun j v e => (wipe_some e).1), st, n0, w0⟩
  obtain ⟨j, H1, I1, st1, n1, w1⟩ := hI
  show wpAny _ Y.A ((compTurn (.ListComp elt0 gs scope lpos) k (.ref it) (.ref D) Y.env).onRaise (fun x => do noteFrame x Y.env; theTreesLotGoes x)) _ _ s1
  refine wpAny_noted ?_
  rw [hk]
  rcases turn j n H1 w1 with ⟨stop, nx⟩ | ⟨go, Nx1, hNx, step⟩
  · refine wpAny_bind (wpAny_standAt (wpAny_bind (thnF (T.done Y rfl rfl rfl hc j pins s1 _ H1 (fun _ _ => False) I1 (hfp I1 n1) st1 stop) fun r s2 ⟨hr, I2⟩ => ?_)))
    subst hr
    exact wpAny_pure ⟨H1, I2, nx⟩
  · refine wpAny_bind (wpAny_standAt (wpAny_bind (thnF (T.item Y rfl rfl rfl hc j pins s1 _ H1 (fun _ _ => False) I1 (hfp I1 n1) st1 go) fun r s2 ⟨u, hr, h2⟩ => ?_)))
    subst hr
    refine wpAny_bind (thnF h2 fun _ s3 ⟨x, H3, I3, r3, y3, st3, n3⟩ => ?_)
    have I3' := I3.pinned (hfp I3 n3) (T.obj _ _ st3)
    refine wpAny_bind (wpAny_mono (pg.run _ s3 _ H3 x u _ I3' r3 (step x H3 y3)) (fun _ s4 ⟨σ4, H4, I4, hw4, q4⟩ => ?_) fun e s' z => absurd z (hx e s'))
    refine wpAny_bind (wpAny_mono (pt.run _ s4 σ4 H4 _ I4 q4) (fun b s5 ⟨H5, I5, q5⟩ => ?_) fun e s' z => absurd z (hx e s'))
    have hl4 : σ4.length = (wipe σ vs).length := by rw [← hw4, wipe_length]
    have last : ∀ {s' : Shared} {σ' : L2.St} {H' : Hp}, L2.Inv Y (pins ++ pinsAt fp s3.heap) σ' H' s' → σ'.length = σ4.length → (∀ (j : Nat) v, (wipe σ4 vsI)[j]? = some (some v) → σ'[j]? = some (some v)) → Nx1 H' →
        ∃ m', m' < n ∧ ∃ j H', L2.Inv Y pins (wipe σ vs) H' s' ∧ tn j s'.heap ∧ (∀ b ∈ fp, H' b = none) ∧ W j m' H' := fun {s' σ' H'} I' hl hw nx => by
      obtain ⟨m', hm, w'⟩ := hNx H' nx
      have pin' : ∀ b ∈ fp, ∀ o, s3.heap.get? b = some o → s'.heap.get? b = some o ∧ H' b = none := fun b hb o e =>
        let z := I'.pin (b, o) (List.mem_append_right _ (List.mem_append_right _ (mem_pinsAt hb e)))
        ⟨z.1, z.2.1⟩
      refine ⟨m', hm, j + 1, H', I'.unpinned.weak (by rw [hl, hl4]) (fun i v e => hw i v ?_), T.keep _ _ _ st3 fun b hb o e => (pin' b hb o e).1, fun b hb => ?_, w'⟩
      · rw [← hw4] at e
        obtain ⟨e1, e2⟩ := wipe_some e
        rw [wipe_out fun z => e2 (hv i z)]
        exact e1
      · obtain ⟨o, e, _⟩ := T.obj _ _ st3 b hb
        exact (pin' b hb o e).2
    cases b with
    | false =>
      rw [if_neg (by decide)] at q5
      exact wpAny_pure ⟨rfl, last I5 rfl (fun i v e => (wipe_some e).1) q5⟩
    | true =>
      rw [if_pos rfl] at q5
      exact bo.run _ σ4 H5 s5 Nx1 _ _ _ I5 q5 fun s' σ' H' I' hl hw nx => wpAny_pure ⟨rfl, last I' hl hw nx⟩
/-- the element goes to the list -/
def tkElt (D : Addr) (te : TE) : L2.St → Hp → (Hp → Prop) → Prop := fun σ H Nx => te σ H fun y H1 => ∃ acc, H1 D = some (.lst acc) ∧ acc.length < sizeLine ∧ Nx (upd H1 D (.lst (acc ++ [y])))
theorem body_elt {elt : Expr} {te : TE} (he : PE Y elt te) (hx : ∀ e s, ¬ Y.xe e s) : BodyOk Y (fun r => do
    (do let _ ← call (.builtin "list.append") [.ref D, ← eval elt Y.env])
    r) vsI (tkElt D te) := ⟨fun pins σ H s Nx r Q E I h fin => by
  refine wpAny_bind (wpAny_bind (wpAny_mono (he.run pins s σ H _ I h) (fun z s1 ⟨yv, H1, I1, r1, acc, hD, hz, nx⟩ => ?_) fun e s' z => absurd z (hx e s')))
  exact wpAny_bind (app_ok I1 hD hz r1 fun s2 I2 => wpAny_pure (fin s2 σ _ I2 rfl (fun j v e => (wipe_some e).1) nx))⟩
/-- a clause within -/
def tkFor (wi : TI) (g : TG) (tt : TT) (tk : L2.St → Hp → (Hp → Prop) → Prop) (vs : List Nat) : L2.St → Hp → (Hp → Prop) → Prop := fun σ H Nx => wi σ H fun J H1 => ∃ W : Nat → Nat → Hp → Prop, (∃ m, W 0 m H1) ∧ clW g tt tk vs J σ W Nx
theorem body_for {iter : Expr} {wi : TI} (hx : ∀ e s, ¬ Y.xe e s) (hc : Y.calm = true) (hk : TurnIs (.ListComp elt0 gs scope lpos) k p tg ifs bodyK) (hi : PI Y tg iter wi) (pg : PG Y tg g) (pt : PTs Y ifs tt) (bo : BodyOk Y (bodyK (.ref D) Y.env) vsI tk) (hv : ∀ i ∈ vsI, i ∈ vs)
    (hs : ∀ x, foldedSetIterable iter Y.env x = pure x)
    (hst : ∀ (it : Addr) (R : Result → Shared → Prop) (s : Shared), codeAny (model Y.prog Y.w) Y.A (.compLoop (.ListComp elt0 gs scope lpos) k (.ref it) (.ref D) Y.env) R s → (∀ (Q : Value → Shared → Prop) (E : Value → Shared → Prop), Q (.ref it) s → wpAny (model Y.prog Y.w) Y.A (pyIter (.ref it)) Q E s) →
      codeAny (model Y.prog Y.w) Y.A (.compStart (.ListComp elt0 gs scope lpos) k (.ref it) (.ref D) Y.env) R s) :
    BodyOk Y (fun r => do let x ← eval iter Y.env; standAt iter.pos; let x ← foldedSetIterable iter Y.env x; let _ ← runOwn (.compStart (.ListComp elt0 gs scope lpos) k (← holding [x] (pyIter x)) (.ref D) Y.env) Y.env; r) vs (tkFor wi g tt tk vs) := ⟨fun pins σ H s Nx r Q E I h fin => by
  refine wpAny_bind (wpAny_mono (hi.run pins s σ H _ I h) (fun x s1 h1 => ?_) fun e s' z => absurd z (hx e s'))
  refine wpAny_bind (wpAny_standAt (wpAny_bind (wpAny_of_eq (hs x) (wpAny_bind (wpAny_holding (wpAny_mono h1 (fun itv s2 h2 => ?_) fun e s' z => absurd z (hx e s')))))))
  obtain ⟨it, fp, tn, J, H2, e, I2, T, st2, f2, W, ⟨m, w0⟩, turn⟩ := h2
  subst e
  refine wpAny_bind (wpAny_runOwn ?_)
  rw [Around.mark_none]
  have lp := loop_ok (D := D) hx hc hk pg pt bo hv T st2 (fun b hb => (f2 b hb).1) (fun {σ' H' s'} I' n' b hb => ⟨n' b hb, (f2 b hb).2⟩) I2 w0 turn
  refine codeAny_mono (hst it _ _ lp fun Q E q => T.self _ _ _ _ _ st2 q) fun r s' hr => ?_
  cases r with
  | error e => exact hr.elim
  | ok f =>
    obtain ⟨H', I', nx⟩ := hr
    have done := fin s' (wipe σ vs) H' I' (wipe_length _ _) (fun _ _ e => e) nx
    first
      | exact wpAny_pure done
      | exact wpAny_bind (wpAny_pure done)
      | exact done⟩
end
section
variable {X : Cx}
/-- a comprehension with any clauses behind the first one -/
def tLcG (wi : TI) (g : TG) (tt : TT) (tk : Addr → L2.St → Hp → (Hp → Prop) → Prop) (vs : List Nat) : TE := fun σ H Q => wi σ H fun J H1 => ∀ D, H1 D = none → ∃ W : Nat → Nat → Hp → Prop, (∃ m, W 0 m (upd H1 D (.lst []))) ∧ clW g tt (tk D) vs J σ W fun H' => Q (.ref D) H'
abbrev BlkA (X : Cx) (scope : Scope) (P : Cx → Prop) : Prop := ∀ (s : Shared) (H : Hp) (C : Addr) (cl : List (Str × Addr)) (fp : List Addr), P (X.blk s H scope (compEnvC scope cl C X.env) fp)
theorem lcG_core {pins : List (Addr × Obj)} {s : Shared} {σ : L2.St} {H : Hp} {Q : VK} {elt tg iter : Expr} {ifs : List Expr} {rest : List Comprehension} {scope : Scope} {own : List (Str × Nat)} {pos pos' : Pos} {wi : TI} {g : TG} {tt : TT} {tk : Addr → L2.St → Hp → (Hp → Prop) → Prop} {vsI : List Nat}
    {use : Option (Value → Sem Unit)} {Qf : Value → Shared → Prop} {bodyK : Value → Env → Sem PySem.Fin → Sem PySem.Fin} (calm : X.calm = true) (dup : X.N.Nodup) (I : L2.Inv X pins σ H s) (hi : PI X tg iter wi) (ok : BlkOk X.N X.env.scope scope own)
    (hk : TurnIs (.ListComp elt (⟨tg, iter, ifs, 0⟩ :: rest) scope pos) 0 iter.pos tg ifs bodyK) (hg : BlkA X scope fun Y => PG Y tg g) (ht : BlkA X scope fun Y => PTs Y ifs tt) (hb : ∀ D, BlkA X scope fun Y => BodyOk Y (bodyK (.ref D) Y.env) vsI (tk D)) (hv : ∀ i ∈ vsI, i ∈ own.map (·.2))
    (hs : ∀ x, foldedSetIterable iter X.env x = pure x) (want : tLcG wi g tt tk (own.map (·.2)) σ H Q)
    (fin : ∀ D C t m G, L2.Inv X pins σ G t → Q (.ref D) G → t.heap.Ns C m → FpOk X pins G C → compPost (model X.prog X.w) X.A X.xe use Qf (.ref D) C (.ok .next) t) :
    wpAny (model X.prog X.w) X.A (comprehension (.ListComp elt (⟨tg, iter, ifs, 0⟩ :: rest) scope pos) scope X.env pos' (newList []) false (eval iter X.env) use) Qf X.xe s := by
  have cells : ∀ y ∈ scope.names, y.2 = .free → ∃ c, X.env.cells.lookup y.1 = some c := fun y hy e => (ok.free y hy e).elim (fun k => I.ok.has _ (.inl k)) fun k => I.ok.has _ (.inr k)
  refine wpAny_comprehension_free (use := use) rfl hs (closure_ok cells) ok.kind (fun y hy e => by rw [ok.uniq y hy, e]) (thn (hi.run pins s σ H _ I want) fun xv t1 hx => thn hx fun itv t2 got => ?_)
  obtain ⟨it, fp, tn, J, G2, e, I2, T, st2, f2, q⟩ := got
  subst e
  refine wpAny_newObj_type (newEnv_comp ?_) (by show 0 ≤ sizeLine; decide)
  generalize eD : t2.heap.objs.size = D
  obtain ⟨W, ⟨m0, w0⟩, turn⟩ := q D (I2.hok.fresh (Nat.le_of_eq eD))
  generalize e3 : ({ t2 with heap := t2.heap.push { cls := .type "list", data := .seq ([] : List Value).toArray } } : Shared) = t3
  have I3 : L2.Inv X pins σ (upd G2 D (.lst [])) t3 := by
    rw [← e3]
    exact I2.laid (t' := t2.toks) (fun b o e => Heap.get?_push_of_some _ e) (Nat.le_of_eq eD) ⟨Nat.zero_le _, [], 0, .nil, by rw [← eD]; exact Heap.get?_push_size _ rfl⟩
  have h3 : t3.heap = t2.heap.push { cls := .type "list", data := .seq ([] : List Value).toArray } := by rw [← e3]
  have f3 : ∀ b ∈ fp, FpOk X pins (upd G2 D (.lst [])) b ∧ b < t3.heap.objs.size := fun b hb => by
    obtain ⟨o, eo, _⟩ := T.obj _ _ st2 b hb
    have lt := Heap.lt_size eo
    exact ⟨⟨by rw [upd_ne (by rw [← eD]; exact Nat.ne_of_lt lt)]; exact (f2 b hb).1, (f2 b hb).2⟩, by rw [h3, Heap.size_push]; exact Nat.lt_succ_of_lt lt⟩
  have st3 : tn 0 t3.heap := T.keep _ _ _ st2 fun b _ o e => by rw [h3]; exact Heap.get?_push_of_some _ e
  have I4 := block_start I3 ok dup f3
  have pg := hg t3 (upd G2 D (.lst [])) t3.heap.objs.size (cellsFrom (t3.heap.objs.size + 1) scope.names (cloFrom X.env.cells scope.names [])) fp
  have pt := ht t3 (upd G2 D (.lst [])) t3.heap.objs.size (cellsFrom (t3.heap.objs.size + 1) scope.names (cloFrom X.env.cells scope.names [])) fp
  have pb := hb D t3 (upd G2 D (.lst [])) t3.heap.objs.size (cellsFrom (t3.heap.objs.size + 1) scope.names (cloFrom X.env.cells scope.names [])) fp
  show codeAny _ _ (.compStart (.ListComp elt (⟨tg, iter, ifs, 0⟩ :: rest) scope pos) 0 (.ref it) (.ref D) (compEnvC scope (cellsFrom (t3.heap.objs.size + 1) scope.names (cloFrom X.env.cells scope.names [])) t3.heap.objs.size X.env)) (compPost (model X.prog X.w) X.A X.xe use Qf (.ref D) t3.heap.objs.size)
    { t3 with heap := pushCells (t3.heap.push { cls := .type "dict", data := .dict #[] }) scope.names }
  generalize ec : compEnvC scope (cellsFrom (t3.heap.objs.size + 1) scope.names (cloFrom X.env.cells scope.names [])) t3.heap.objs.size X.env = ce at I4 pg pt pb ⊢
  have cL : ce.locals = t3.heap.objs.size := by subst ec; rfl
  generalize upd G2 D (.lst []) = G3 at I3 I4 pg pt pb w0 f3
  generalize e4 : ({ t3 with heap := pushCells (t3.heap.push { cls := .type "dict", data := .dict #[] }) scope.names } : Shared) = t4 at I4 ⊢
  have st4 : tn 0 t4.heap := T.keep _ _ _ st3 fun b _ o e => by rw [← e4]; exact pushCells_keeps _ _ _ _ (Heap.get?_push_of_some _ e)
  have lp := loop_ok (D := D) (Y := X.blk t3 G3 scope ce fp) (fun _ _ z => z.elim) calm hk pg pt pb hv T st4 (fun b hb => (f3 b hb).1.1)
    (fun {σ' H' s'} I' n' b hb => ⟨n' b hb, (I'.ok.exf b hb).1, I'.ok.exfs b hb, .inl hb, fun x c e => (I'.ok.exf b hb).2 x c e, fun p hp => absurd (show p ∈ ([] : List (Addr × Obj)) ++ [] from hp) (by simp)⟩) I4 w0
    (Nx := fun G => Q (.ref D) G) (σ := wipe σ (own.map (·.2))) (by
      intro j m G w
      rcases turn j m G w with z | ⟨go, Nx1, h1, h2⟩
      · exact .inl z
      · refine .inr ⟨go, Nx1, h1, fun x G' y => ?_⟩
        rw [wipe_wipe fun _ h => h]
        exact h2 x G' y)
  have lp2 : codeAny (model X.prog X.w) X.A (.compLoop (.ListComp elt (⟨tg, iter, ifs, 0⟩ :: rest) scope pos) 0 (.ref it) (.ref D) ce) (compPost (model X.prog X.w) X.A X.xe use Qf (.ref D) t3.heap.objs.size) t4 := by
    refine codeAny_mono lp fun r t5 hr => ?_
    cases r with
    | error e => exact hr.elim
    | ok f =>
      obtain ⟨G5, I5, q5⟩ := hr
      have I6 : L2.Inv X pins σ G5 t5 := I3.call' (ch := fp) I5.os I5.base I5.hok I5.bare fun b hb => ⟨(f3 b hb).1.2.2.2.1, (f3 b hb).1.2.1, (f3 b hb).1.2.2.2.2.1, (f3 b hb).1.2.2.2.2.2⟩
      have nC : G5 t3.heap.objs.size = none := by
        have z : G5 ce.locals = none := I5.free
        rw [cL] at z
        exact z
      obtain ⟨m, hn, _⟩ := I5.loc
      have hn' : t5.heap.Ns t3.heap.objs.size m := by rw [← cL]; exact hn
      have done := fin D t3.heap.objs.size t5 m G5 I6 q5 hn' (I3.fpOk (Nat.le_refl _) nC)
      cases use with
      | none => exact done
      | some u => exact done
  exact codeAny_compStart_list lp2 (T.self X.A 0 _ _ _ st4 lp2)
end
section
variable {X : Cx} {elt tg iter : Expr} {ifs : List Expr} {rest : List Comprehension} {scope : Scope} {own : List (Str × Nat)} {pos : Pos} {wi : TI} {g : TG} {tt : TT} {tk : Addr → L2.St → Hp → (Hp → Prop) → Prop} {vsI : List Nat} {bodyK : Value → Env → Sem PySem.Fin → Sem PySem.Fin}
theorem pe_lcG (calm : X.calm = true) (dup : X.N.Nodup) (hi : PI X tg iter wi) (ok : BlkOk X.N X.env.scope scope own) (hk : TurnIs (.ListComp elt (⟨tg, iter, ifs, 0⟩ :: rest) scope pos) 0 iter.pos tg ifs bodyK) (hg : BlkA X scope fun Y => PG Y tg g) (ht : BlkA X scope fun Y => PTs Y ifs tt)
    (hb : ∀ D, BlkA X scope fun Y => BodyOk Y (bodyK (.ref D) Y.env) vsI (tk D)) (hv : ∀ i ∈ vsI, i ∈ own.map (·.2)) (hs : ∀ x, foldedSetIterable iter X.env x = pure x) : PE X (.ListComp elt (⟨tg, iter, ifs, 0⟩ :: rest) scope pos) (tLcG wi g tt tk (own.map (·.2))) := by
  refine ⟨fun pins s σ H Q I want => ?_⟩
  rw [eval_ListComp]
  refine lcG_core calm dup I hi ok hk hg ht hb hv hs want fun D C t m G J q hn f => ⟨m, hn, fun h2 sb => ?_⟩
  obtain ⟨f0, f1, f2, f3, f4, f5⟩ := f
  exact ⟨.ref D, G, J.turned (t' := t.toks) (fun b o hb e => (sb.2 b hb).trans e) f0 f1 f3 f4 f5, rfl, q⟩
theorem ps_setLcG {i : Nat} {y : Str} {py spos : Pos} (calm : X.calm = true) (dup : X.N.Nodup) (hy : X.N[i]? = some y) (hyl : X.env.scope.names.lookup y = some .local) (hsw : swapsWith (.ListComp elt (⟨tg, iter, ifs, 0⟩ :: rest) scope pos) (some (.Name y py)) spos.line X.env = pure true) (hi : PI X tg iter wi)
    (ok : BlkOk X.N X.env.scope scope own) (hk : TurnIs (.ListComp elt (⟨tg, iter, ifs, 0⟩ :: rest) scope pos) 0 iter.pos tg ifs bodyK) (hg : BlkA X scope fun Y => PG Y tg g) (ht : BlkA X scope fun Y => PTs Y ifs tt) (hb : ∀ D, BlkA X scope fun Y => BodyOk Y (bodyK (.ref D) Y.env) vsI (tk D)) (hv : ∀ i ∈ vsI, i ∈ own.map (·.2))
    (hs : ∀ x, foldedSetIterable iter X.env x = pure x) : PS X (.Assign [.Name y py] (.ListComp elt (⟨tg, iter, ifs, 0⟩ :: rest) scope pos) spos) (tAsg (tLcG wi g tt tk (own.map (·.2))) (gName i)) := by
  refine ⟨fun pins s σ H D I want => ?_⟩
  rw [exec_Assign_Name_used _ _ _ _ hsw]
  refine wpAny_bind (wpAny_standAt (wpAny_bind ?_))
  show wpAny _ X.A (do let _ ← comprehension (.ListComp elt (⟨tg, iter, ifs, 0⟩ :: rest) scope pos) scope X.env (firstIterPos (⟨tg, iter, ifs, 0⟩ :: rest) pos) (newList []) false (eval iter X.env) (some (assign (.Name y py) X.env))) _ _ s
  have want2 : tLcG wi g tt tk (own.map (·.2)) σ H (fun x H1 => gName i x σ H1 D.nx) := want
  refine wpAny_bind (thn (lcG_core (Qf := fun _ s' => SP X pins D .next s') calm dup I hi ok hk hg ht hb hv hs want2 fun L C t m G J q hn f => ?_) fun _ s' hq => wpAny_pure (wpAny_pure hq))
  show wpAny _ _ (assign (.Name y py) X.env (.ref L)) _ _ _
  refine wpAny_assign_Name (store_ok2 (v := V.ref L) J dup hy (.inl hyl) rfl (fun t2 J2 ⟨a, sb, ha⟩ => ?_) (.inr hyl))
  obtain ⟨f0, f1, f2, f3, f4, f5⟩ := f
  have apart : C ≠ a := ha.elim (fun z => by rw [z]; exact f1) fun z e => f4 y a z e.symm
  exact ⟨m, hn.sameBut sb apart, fun h3 sb3 => ⟨_, G, J2.turned (t' := t2.toks) (fun b o hb e => (sb3.2 b hb).trans e) f0 f1 f3 f4 f5, q⟩⟩
end
/-! the clauses' turns -/
def kFor (code : Expr) (k : Nat) (iter : Expr) : Value → Env → Sem PySem.Fin → Sem PySem.Fin := fun acc env r => do
  let x ← eval iter env
  standAt iter.pos
  let x ← foldedSetIterable iter env x
  let _ ← runOwn (.compStart code k (← holding [x] (pyIter x)) acc env) env
  r
def kElt (elt : Expr) : Value → Env → Sem PySem.Fin → Sem PySem.Fin := fun acc env r => do
  (do let _ ← call (.builtin "list.append") [acc, ← eval elt env])
  r
section
variable {elt t0 i0 t1 i1 t2 i2 : Expr} {c0 c1 c2 : List Expr} {scope : Scope} {pos : Pos}
theorem turn_20 : TurnIs (.ListComp elt [⟨t0, i0, c0, 0⟩, ⟨t1, i1, c1, 0⟩] scope pos) 0 i0.pos t0 c0 (kFor (.ListComp elt [⟨t0, i0, c0, 0⟩, ⟨t1, i1, c1, 0⟩] scope pos) 1 i1) := fun _ _ _ => rfl
theorem turn_21 : TurnIs (.ListComp elt [⟨t0, i0, c0, 0⟩, ⟨t1, i1, c1, 0⟩] scope pos) 1 i1.pos t1 c1 (kElt elt) := fun _ _ _ => rfl
theorem turn_30 : TurnIs (.ListComp elt [⟨t0, i0, c0, 0⟩, ⟨t1, i1, c1, 0⟩, ⟨t2, i2, c2, 0⟩] scope pos) 0 i0.pos t0 c0 (kFor (.ListComp elt [⟨t0, i0, c0, 0⟩, ⟨t1, i1, c1, 0⟩, ⟨t2, i2, c2, 0⟩] scope pos) 1 i1) := fun _ _ _ => rfl
theorem turn_31 : TurnIs (.ListComp elt [⟨t0, i0, c0, 0⟩, ⟨t1, i1, c1, 0⟩, ⟨t2, i2, c2, 0⟩] scope pos) 1 i1.pos t1 c1 (kFor (.ListComp elt [⟨t0, i0, c0, 0⟩, ⟨t1, i1, c1, 0⟩, ⟨t2, i2, c2, 0⟩] scope pos) 2 i2) := fun _ _ _ => rfl
theorem turn_32 : TurnIs (.ListComp elt [⟨t0, i0, c0, 0⟩, ⟨t1, i1, c1, 0⟩, ⟨t2, i2, c2, 0⟩] scope pos) 2 i2.pos t2 c2 (kElt elt) := fun _ _ _ => rfl
end
/-- a clause's start: its iterator once more -/
def StartIs (code : Expr) (k : Nat) : Prop := ∀ (prog : Program) (w : World) (A : Around) (it : Addr) (acc : Value) (env : Env) (R : Result → Shared → Prop) (s : Shared), codeAny (model prog w) A (.compLoop code k (.ref it) acc env) R s →
  (∀ (Q : Value → Shared → Prop) (E : Value → Shared → Prop), Q (.ref it) s → wpAny (model prog w) A (pyIter (.ref it)) Q E s) → codeAny (model prog w) A (.compStart code k (.ref it) acc env) R s
section
variable {elt t0 i0 t1 i1 t2 i2 : Expr} {c0 c1 c2 : List Expr} {scope : Scope} {pos : Pos}
theorem start_21 : StartIs (.ListComp elt [⟨t0, i0, c0, 0⟩, ⟨t1, i1, c1, 0⟩] scope pos) 1 := fun prog w A it acc env R s h0 h => by
  exact compStart1_ok h0 (h _ _ h0)
theorem start_3 (k : Nat) (hk : k = 1 ∨ k = 2) : StartIs (.ListComp elt [⟨t0, i0, c0, 0⟩, ⟨t1, i1, c1, 0⟩, ⟨t2, i2, c2, 0⟩] scope pos) k := fun prog w A it acc env R s h0 h => by
  rcases hk with rfl | rfl
  all_goals
    refine codeAny_of_tree ?_
    refine wpAny_notedAt (m := compStart (.ListComp elt [⟨t0, i0, c0, 0⟩, ⟨t1, i1, c1, 0⟩, ⟨t2, i2, c2, 0⟩] scope pos) _ (.ref it) acc env) ?_
    unfold compStart
    refine wpAny_bind (wpAny_askSetting (wpAny_ite ?_))
    split
    · first
        | exact wpAny_bind (wpAny_pure (wpAny_pure (And.intro rfl h0)))
        | exact wpAny_pure (And.intro rfl h0)
    · refine wpAny_bind (wpAny_rule ?_)
      refine wpAny_bind (wpAny_standAt ?_)
      exact wpAny_bind (h _ _ (wpAny_pure (And.intro rfl h0)))
end
end DL

/-! DMd: comprehensions with several for clauses, over data. -/
namespace DL
open PySem PySem.Spec PyProof.Rows L2
abbrev DK := DEnv → Kap → (Kap → Prop) → Prop
def cElt (n : Nat) (e : DE) : DK := fun δ κ K => e δ κ XF fun y κ3 => ∃ acc, κ3 n = some (.live .lst acc) ∧ acc.length < sizeLine ∧ K (kset κ3 n (.live .lst (acc ++ [y])))
def cLoop (t : TN) (tt : DT) (vs : List Nat) (rest : DK) (gd : Kap → Prop) (δ : DEnv) (K : Kap → Prop) : List D → Kap → Prop
  | [], κ => gd κ ∧ K κ
  | d :: ds, κ => gd κ ∧ ∃ δ1, bindT t d (dwipe δ vs) κ = some δ1 ∧ tt δ1 κ XF fun b κ2 => if b = true then rest δ1 κ2 (cLoop t tt vs rest gd δ K ds) else cLoop t tt vs rest gd δ K ds κ2
def cFor (it : DI) (t : TN) (tt : DT) (vs : List Nat) (rest : DK) : DK := fun δ κ K => it δ κ XF fun items gd κ1 => cLoop t tt vs rest gd δ K items κ1
def dLcG (m : Bool) (it : DI) (t : TN) (tt : DT) (rest : Nat → DK) (vs : List Nat) : DE := fun δ κ X Q => it δ κ X fun items gd κ1 => ∀ n, κ1 n = none →
  cLoop t tt vs (rest n) gd δ (fun κ' => ∃ acc, κ' n = some (.live .lst acc) ∧ if m = true then Q (.cell n) κ' else Q (.lst acc) (kset κ' n .dead)) items (kset κ1 n (.live .lst []))
theorem cLoop_gd {t : TN} {tt : DT} {vs : List Nat} {rest : DK} {gd : Kap → Prop} {δ : DEnv} {K : Kap → Prop} {ds : List D} {κ : Kap} (h : cLoop t tt vs rest gd δ K ds κ) : gd κ := by
  cases ds with
  | nil => exact h.1
  | cons d ds => exact h.1
/-- a reading within a comprehension whose list is the cell n, at D -/
def liftK (C : Ctx) (D : Addr) (n : Nat) (dk : DK) : L2.St → Hp → (Hp → Prop) → Prop := fun σ H Nx => ∃ F ρ κ δ K, StR C F ρ κ H ∧ RepS C F ρ δ σ ∧ ρ n = some D ∧ dk δ κ K ∧ ∀ F' ρ' κ' H', Ext F ρ F' ρ' → StR C F' ρ' κ' H' → K κ' → Nx H'
section
variable {C : Ctx} {D0 : Addr} {n : Nat}
theorem lift_cElt {e : DE} {σ : L2.St} {H : Hp} {Nx : Hp → Prop} (h : liftK C D0 n (cElt n e) σ H Nx) : tkElt D0 (liftE C WF e) σ H Nx := by
  obtain ⟨F, ρ, κ, δ, K, S, R, hr, h, P⟩ := h
  refine ⟨F, ρ, κ, δ, XF, _, S, R, h, fun F1 ρ1 κ1 H1 y v e1 S1 R1 ⟨acc, h1, h2, h3⟩ => ?_, fun _ _ _ _ _ _ _ _ _ _ _ _ _ _ z => z.elim⟩
  obtain ⟨a, ws, g1, g2, g3, g4⟩ := S1.live n _ _ h1
  rw [e1.r _ _ hr] at g1
  cases g1
  have g3' : H1 D0 = some (.lst ws) := g3
  refine ⟨ws, g3', by rw [← g4.length]; exact h2, P F1 ρ1 _ _ e1 ?_ h3⟩
  exact S1.write (k' := .lst) h1 (e1.r _ _ hr) (fun _ q => q) (g4.append (.cons R1 .nil))
/-- the loop of a clause -/
theorem lift_cLoop {t : TN} {tt : DT} {vs : List Nat} {rest : DK} {gd : Kap → Prop} {δ : DEnv} {K : Kap → Prop} {items : List D} {κ : Kap} {F : Hp} {ρ : Loc0} {H : Hp} {σ : L2.St} {J : It} {Nx : Hp → Prop} (hi : ∀ i ∈ (match t with | .inl i => [i] | .inr is => is), i ∈ vs)
    (S : StR C F ρ κ H) (R : RepS C F ρ δ σ) (hr : ρ n = some D0) (hJ : ItOk C F ρ J items gd) (h : cLoop t tt vs rest gd δ K items κ) {tk : L2.St → Hp → (Hp → Prop) → Prop} (htk : ∀ {σ H Nx}, liftK C D0 n rest σ H Nx → tk σ H Nx) (P : ∀ F' ρ' κ' H', Ext F ρ F' ρ' → StR C F' ρ' κ' H' → K κ' → Nx H') :
    ∃ W : Nat → Nat → Hp → Prop, (∃ m, W 0 m H) ∧ clW (gvT C.K t) (liftT C WF tt) tk vs J σ W Nx := by
  refine ⟨fun i m H => ∃ F3 ρ3 κ3, Ext F ρ F3 ρ3 ∧ StR C F3 ρ3 κ3 H ∧ i ≤ items.length ∧ m = items.length - i ∧ cLoop t tt vs rest gd δ K (items.drop i) κ3, ⟨_, F, ρ, κ, Ext.refl _ _, S, Nat.zero_le _, rfl, h⟩, ?_⟩
  rintro i m H3 ⟨F3, ρ3, κ3, e3, S3, hi3, rfl, h3⟩
  have hr3 := e3.r _ _ hr
  obtain ⟨q1, q2⟩ := hJ F3 ρ3 κ3 H3 i e3 S3 (cLoop_gd h3)
  by_cases hlt : i < items.length
  · obtain ⟨q3, q4⟩ := q2 _ (List.getElem?_eq_getElem hlt)
    rw [List.drop_eq_getElem_cons hlt] at h3
    obtain ⟨_, δ1, hb, h4⟩ := h3
    refine .inr ⟨q3, _, fun _ z => z, fun x H4 hy => ?_⟩
    obtain ⟨F4, e4, S4, R4⟩ := q4 x H4 hy
    have e34 := e3.trans e4
    refine bindT_at (σ0 := L2.wipe σ vs) S4 hi hb ((R.ext e34).wipe vs) R4 (wipe_wipe fun _ z => z) fun σ5 R5 hw => ⟨hw, F4, ρ3, κ3, δ1, XF, _, S4, R5, h4, fun F5 ρ5 κ5 H5 b e5 S5 h5 => ?_, fun _ _ _ _ _ _ _ _ _ _ _ _ _ _ z => z.elim⟩
    cases b with
    | true =>
      rw [if_pos rfl] at h5
      show tk σ5 H5 _
      exact htk ⟨F5, ρ5, κ5, δ1, _, S5, R5.ext e5, (e4.trans e5).r _ _ hr3, h5, fun F6 ρ6 κ6 H6 e6 S6 h6 => ⟨items.length - (i + 1), by omega, F6, ρ6, κ6, (e3.trans e4).trans (e5.trans e6), S6, hlt, rfl, h6⟩⟩
    | false =>
      rw [if_neg (by decide)] at h5
      exact ⟨items.length - (i + 1), by omega, F5, ρ5, κ5, (e3.trans e4).trans e5, S5, hlt, rfl, h5⟩
  · have e : i = items.length := by omega
    subst e
    rw [List.drop_length] at h3
    exact .inl ⟨q1 rfl, P _ _ _ _ e3 S3 h3.2⟩
theorem lift_cFor {it : DI} {t : TN} {tt : DT} {vs : List Nat} {rest : DK} {σ : L2.St} {H : Hp} {Nx : Hp → Prop} (hi : ∀ i ∈ (match t with | .inl i => [i] | .inr is => is), i ∈ vs) {tk : L2.St → Hp → (Hp → Prop) → Prop} (htk : ∀ {σ H Nx}, liftK C D0 n rest σ H Nx → tk σ H Nx)
    (h : liftK C D0 n (cFor it t tt vs rest) σ H Nx) : tkFor (liftI C WF it) (gvT C.K t) (liftT C WF tt) tk vs σ H Nx := by
  obtain ⟨F, ρ, κ, δ, K, S, R, hr, h, P⟩ := h
  exact ⟨F, ρ, κ, δ, XF, _, S, R, h, fun F1 ρ1 κ1 H1 J items gd e1 S1 hJ h1 => lift_cLoop hi S1 (R.ext e1) (e1.r _ _ hr) hJ h1 htk fun F' ρ' κ' H' e' => P F' ρ' κ' H' (e1.trans e'), fun _ _ _ _ _ _ _ _ _ _ _ _ _ _ z => z.elim⟩
theorem lift_lcG {W : WX} {m : Bool} {it : DI} {t : TN} {tt : DT} {rest : Nat → DK} {vs : List Nat} {σ : L2.St} {H : Hp} {Q : VK} (hi : ∀ i ∈ (match t with | .inl i => [i] | .inr is => is), i ∈ vs) (h : liftE C W (dLcG m it t tt rest vs) σ H Q) :
    tLcG (liftI C W it) (gvT C.K t) (liftT C WF tt) (fun D σ H Nx => ∃ n, liftK C D n (rest n) σ H Nx) vs σ H Q := by
  obtain ⟨F, ρ, κ, δ, XD, QD, S, R, h, P, PX⟩ := h
  refine ⟨F, ρ, κ, δ, XD, _, S, R, h, fun F1 ρ1 κ1 H1 J items gd e1 S1 hJ h1 D1 hD => ?_, PX⟩
  obtain ⟨n, hn⟩ := S1.fresh
  obtain ⟨ρ2, e2, hr2, S2⟩ := S1.cell (o := .lst []) (k := .lst) (vs := []) (xs := []) hD (fun _ q => q) .nil hn
  have hJ2 : ItOk C F1 ρ2 J items gd := fun F' ρ' κ' H' i e' => hJ F' ρ' κ' H' i (e2.trans e')
  exact lift_cLoop (D0 := D1) (n := n) (Nx := fun H' => Q (.ref D1) H') hi S2 (R.ext (e1.trans e2)) hr2 hJ2 (h1 n hn) (fun z => ⟨n, z⟩) fun F' ρ' κ' H' e' S' ⟨acc, a1, a2⟩ => by
    have hr3 := e'.r _ _ hr2
    cases m with
    | true => exact P _ _ _ _ _ _ (e1.trans (e2.trans e')) S' (.cell hr3) a2
    | false =>
      obtain ⟨F4, e4, r4, S4⟩ := S'.freeze a1 hr3
      exact P _ _ _ _ _ _ (e1.trans (e2.trans (e'.trans e4))) S4 r4 a2
end
theorem BodyOk.imp {Y : Cx} {bk : Sem PySem.Fin → Sem PySem.Fin} {vsI : List Nat} {tk tk' : L2.St → Hp → (Hp → Prop) → Prop} (b : BodyOk Y bk vsI tk) (h : ∀ {σ H Nx}, tk' σ H Nx → tk σ H Nx) : BodyOk Y bk vsI tk' :=
  ⟨fun pins σ H s Nx r Q E I q fin => b.run pins σ H s Nx r Q E I (h q) fin⟩
section
variable {Y : Cx} {elt0 tg iter : Expr} {gs : List Comprehension} {scope : Scope} {lpos : Pos} {ifs : List Expr} {k : Nat} {p : Pos} {bodyK : Value → Env → Sem PySem.Fin → Sem PySem.Fin} {D0 : Addr} {vs vsI : List Nat}
theorem bodyD_elt {a : DE} (hx : ∀ e s, ¬ Y.xe e s) (he : PED Y WF elt0 a) : BodyOk Y (kElt elt0 (.ref D0) Y.env) [] (fun σ H Nx => ∃ n, liftK (CtxOf Y) D0 n (cElt n a) σ H Nx) :=
  BodyOk.imp (body_elt (vsI := []) he hx) fun ⟨n, q⟩ => lift_cElt q
theorem bodyD_for {it : DI} {t : TN} {tt : DT} {rest : Nat → DK} (hx : ∀ e s, ¬ Y.xe e s) (hc : Y.calm = true) (hk : TurnIs (.ListComp elt0 gs scope lpos) k p tg ifs bodyK) (hst : StartIs (.ListComp elt0 gs scope lpos) k) (hi : PID Y WF tg iter it) (pg : PG Y tg (gvT Y.K t)) (pt : PTsD Y WF ifs tt)
    (bo : BodyOk Y (bodyK (.ref D0) Y.env) vsI (fun σ H Nx => ∃ n, liftK (CtxOf Y) D0 n (rest n) σ H Nx)) (hv : ∀ i ∈ vsI, i ∈ vs) (hn : ∀ i ∈ (match t with | .inl i => [i] | .inr is => is), i ∈ vs) (hs : ∀ x, foldedSetIterable iter Y.env x = pure x) :
    BodyOk Y (kFor (.ListComp elt0 gs scope lpos) k iter (.ref D0) Y.env) vs (fun σ H Nx => ∃ n, liftK (CtxOf Y) D0 n (cFor it t tt vs (rest n)) σ H Nx) :=
  BodyOk.imp (body_for hx hc hk hi pg pt bo hv hs (fun it R s => hst _ _ _ it _ _ R s)) fun ⟨n, q⟩ => lift_cFor hn (fun z => ⟨n, z⟩) q
end
section
variable {X : Cx} {W : WX} {elt tg0 i0 tg1 i1 tg2 i2 : Expr} {c0 c1 c2 : List Expr} {it0 it1 it2 : DI} {tt0 tt1 tt2 : DT} {a : DE} {pos : Pos} {k : Nat} {scope : Scope}
theorem pd_lc2 (m : Bool) (own : List (Str × Nat)) (t0 t1 : TN) (v1 : List Nat) (G : Good k X W) (hi : PID X W tg0 i0 it0) (hg : BlkA X scope fun Y => PG Y tg0 (gvT X.K t0)) (ht : BlkA X scope fun Y => PTsD Y WF c0 tt0)
    (hi1 : BlkA X scope fun Y => PID Y WF tg1 i1 it1) (hg1 : BlkA X scope fun Y => PG Y tg1 (gvT X.K t1)) (ht1 : BlkA X scope fun Y => PTsD Y WF c1 tt1) (he : BlkA X scope fun Y => PED Y WF elt a)
    (ok : blkC X.N X.env.scope scope own = true := by kernel_rfl) (n0 : ∀ i ∈ (match t0 with | .inl i => [i] | .inr is => is), i ∈ own.map (·.2) := by decide) (n1 : ∀ i ∈ (match t1 with | .inl i => [i] | .inr is => is), i ∈ v1 := by decide) (hv : ∀ i ∈ v1, i ∈ own.map (·.2) := by decide)
    (hs : ∀ x, foldedSetIterable i0 X.env x = pure x := by intro _; rfl) (hs1 : ∀ env x, foldedSetIterable i1 env x = pure x := by intro _ _; rfl) :
    PED X W (.ListComp elt [⟨tg0, i0, c0, 0⟩, ⟨tg1, i1, c1, 0⟩] scope pos) (dLcG m it0 t0 tt0 (fun n => cFor it1 t1 tt1 v1 (cElt n a)) (own.map (·.2))) :=
  pe_weak (pe_lcG (tk := fun D σ H Nx => ∃ n, liftK (CtxOf X) D n (cFor it1 t1 tt1 v1 (cElt n a)) σ H Nx) (vsI := v1) G.calm G.nd hi (blkOk_by ok) turn_20 hg ht (fun D s H C cl fp =>
    bodyD_for (rest := fun n => cElt n a) (fun _ _ z => False.elim z) G.calm turn_21 start_21 (hi1 s H C cl fp) (hg1 s H C cl fp) (ht1 s H C cl fp) (bodyD_elt (fun _ _ z => False.elim z) (he s H C cl fp)) (fun _ z => absurd z List.not_mem_nil) n1 (hs1 _)) hv hs) fun _ _ _ => lift_lcG n0
theorem pd_lc3 (m : Bool) (own : List (Str × Nat)) (t0 t1 t2 : TN) (v1 v2 : List Nat) (G : Good k X W) (hi : PID X W tg0 i0 it0) (hg : BlkA X scope fun Y => PG Y tg0 (gvT X.K t0)) (ht : BlkA X scope fun Y => PTsD Y WF c0 tt0)
    (hi1 : BlkA X scope fun Y => PID Y WF tg1 i1 it1) (hg1 : BlkA X scope fun Y => PG Y tg1 (gvT X.K t1)) (ht1 : BlkA X scope fun Y => PTsD Y WF c1 tt1)
    (hi2 : BlkA X scope fun Y => PID Y WF tg2 i2 it2) (hg2 : BlkA X scope fun Y => PG Y tg2 (gvT X.K t2)) (ht2 : BlkA X scope fun Y => PTsD Y WF c2 tt2) (he : BlkA X scope fun Y => PED Y WF elt a)
    (ok : blkC X.N X.env.scope scope own = true := by kernel_rfl) (n0 : ∀ i ∈ (match t0 with | .inl i => [i] | .inr is => is), i ∈ own.map (·.2) := by decide) (n1 : ∀ i ∈ (match t1 with | .inl i => [i] | .inr is => is), i ∈ v1 := by decide)
    (n2 : ∀ i ∈ (match t2 with | .inl i => [i] | .inr is => is), i ∈ v2 := by decide) (hv : ∀ i ∈ v1, i ∈ own.map (·.2) := by decide) (hv2 : ∀ i ∈ v2, i ∈ v1 := by decide)
    (hs : ∀ x, foldedSetIterable i0 X.env x = pure x := by intro _; rfl) (hs1 : ∀ env x, foldedSetIterable i1 env x = pure x := by intro _ _; rfl) (hs2 : ∀ env x, foldedSetIterable i2 env x = pure x := by intro _ _; rfl) :
    PED X W (.ListComp elt [⟨tg0, i0, c0, 0⟩, ⟨tg1, i1, c1, 0⟩, ⟨tg2, i2, c2, 0⟩] scope pos) (dLcG m it0 t0 tt0 (fun n => cFor it1 t1 tt1 v1 (cFor it2 t2 tt2 v2 (cElt n a))) (own.map (·.2))) :=
  pe_weak (pe_lcG (tk := fun D σ H Nx => ∃ n, liftK (CtxOf X) D n (cFor it1 t1 tt1 v1 (cFor it2 t2 tt2 v2 (cElt n a))) σ H Nx) (vsI := v1) G.calm G.nd hi (blkOk_by ok) turn_30 hg ht (fun D s H C cl fp =>
    bodyD_for (rest := fun n => cFor it2 t2 tt2 v2 (cElt n a)) (fun _ _ z => False.elim z) G.calm turn_31 (start_3 1 (.inl rfl)) (hi1 s H C cl fp) (hg1 s H C cl fp) (ht1 s H C cl fp)
      (bodyD_for (rest := fun n => cElt n a) (fun _ _ z => False.elim z) G.calm turn_32 (start_3 2 (.inr rfl)) (hi2 s H C cl fp) (hg2 s H C cl fp) (ht2 s H C cl fp) (bodyD_elt (fun _ _ z => False.elim z) (he s H C cl fp)) (fun _ z => absurd z List.not_mem_nil) n2 (hs2 _)) hv2 n1 (hs1 _)) hv hs) fun _ _ _ => lift_lcG n0
end
end DL

/-! DMf: enumerate, tuple(..), x[::-1], n += .. -/
namespace DL
open PySem PySem.Spec PyProof.Rows L2
/-! ### enumerate -/
def enumD : Nat → List D → List D
  | _, [] => []
  | i, y :: ys => .node .tup [.int (i : Nat), y] :: enumD (i + 1) ys
theorem enumD_len : ∀ (ys : List D) (i : Nat), (enumD i ys).length = ys.length
  | [], _ => rfl
  | y :: ys, i => by
    show (enumD (i + 1) ys).length + 1 = _
    rw [enumD_len ys (i + 1), List.length_cons]
theorem enumD_get : ∀ (ys : List D) (i k : Nat), (enumD i ys)[k]? = (ys[k]?).map fun y => .node .tup [.int ((i + k : Nat) : Int), y]
  | [], _, _ => by simp [enumD]
  | y :: ys, i, 0 => rfl
  | y :: ys, i, k + 1 => by
    show (enumD (i + 1) ys)[k]? = _
    rw [enumD_get ys (i + 1) k, List.getElem?_cons_succ, show i + 1 + k = i + (k + 1) by omega]
def eQ (QI : List D → (Kap → Prop) → Kap → Prop) (xs : List D) (κ : Kap) : Prop := match xs with
  | [.cell n] => ∃ ys, κ n = some (.live .lst ys) ∧ QI (enumD 0 ys) (fun κ => κ n = some (.live .lst ys)) κ
  | [.node .lst ys] => QI (enumD 0 ys) gTrue κ
  | _ => False
def iEnumD (as : DA) : DI := fun δ κ X QI => as δ κ X (eQ QI)
theorem itOk_e {C : Ctx} {F : Hp} {ρ : Loc0} {a : Addr} {xs : List D} {g : Kap → Prop} (hk : ∀ F' ρ' κ' H', Ext F ρ F' ρ' → StR C F' ρ' κ' H' → g κ' → ∃ vs, SqL C.K H' a vs ∧ RepL C F' ρ' xs vs) : ItOk C F ρ (Ite C.K a) (enumD 0 xs) g := fun F' ρ' κ' H' i e S hg => by
  obtain ⟨vs, hs, rl⟩ := hk _ _ _ _ e S hg
  refine ⟨fun hi => ⟨vs, hs, by rw [hi, enumD_len, ← rl.length]; exact Nat.le_refl _⟩, fun d hd => ?_⟩
  rw [enumD_get, Option.map_eq_some_iff] at hd
  obtain ⟨y, hy, rfl⟩ := hd
  obtain ⟨v, hv, rv⟩ := rl.get hy
  refine ⟨⟨vs, v, hs, hv⟩, fun x H2 ⟨T, w, h1, h2, h3, h4⟩ => ?_⟩
  subst h1 h3
  have ev : v = w := Option.some.inj (hv.symm.trans (h4 vs hs))
  subst ev
  obtain ⟨ex, S2⟩ := S.laid (p := T) (o := .tup [.int (i : Nat), v]) h2
  refine ⟨_, ex, S2, .node (k := .tup) (.inl (.inl upd_same)) (.cons ?_ (.cons (rv.ext ex) .nil))⟩
  rw [Nat.zero_add]
  exact .int _
section
variable {X : Cx} {W : WX} {e : Expr} {as : DA} {p pos tpos : Pos} {elts : List Expr} {kk : Nat}
theorem pi_enumD (hm : X.mg "enumerate" = none) (ha : PAD X W [e] as) (hg : Gl X "enumerate" := by rfl) (hs : starEach [e] X.env = [(false, eval e X.env)] := by rfl) : PID X W (.Tuple elts kk tpos) (.Call (.Name "enumerate" p) [e] [] pos) (iEnumD as) :=
  pi_weak (pi_enum hg hm ha hs) fun σ H R ⟨F, ρ, κ, δ, XD, QD, S, Rr, h, P, PX⟩ => ⟨F, ρ, κ, δ, XD, _, S, Rr, h, fun F1 ρ1 κ1 H1 xs vs e1 S1 R1 h1 => by
    match xs, h1 with
    | [.cell n], ⟨ys, h2, h3⟩ =>
      obtain ⟨v, rfl, rv⟩ := repL1 R1
      obtain ⟨a, ws, rfl, hr, hm2, rl⟩ := cell_at S1 rv h2
      refine ⟨a, ws, rfl, SqL.of hm2, P _ _ _ _ _ _ _ e1 S1 (itOk_e fun F' ρ' κ' H' e' S' hg => ?_) h3⟩
      obtain ⟨p2, vs2, r2, _, hm3, rl2⟩ := S'.live n _ _ hg
      rw [e'.r _ _ hr] at r2
      cases r2
      exact ⟨vs2, SqL.of hm3, rl2⟩
    | [.node .lst ys], h2 =>
      obtain ⟨v, rfl, rv⟩ := repL1 R1
      cases rv with
      | @node _ _ a ws hk rl =>
        exact ⟨a, ws, rfl, SqL.of (S1.sub _ _ hk), P _ _ _ _ _ _ _ e1 S1 (itOk_e fun F' ρ' κ' H' e' S' _ => ⟨ws, SqL.of (S'.sub _ _ (e'.f _ _ hk)), rl.ext e'⟩) h2⟩, PX⟩
end
/-! ### tuple(x), x[::-1] -/
def fTup : D → Kap → DQ → Prop := fun x κ Q => (∃ ys, view x κ = some (.lst, ys) ∧ Q (.node .tup ys) κ) ∨ ∃ ys, x = .node .tup ys ∧ Q (.node .tup ys) κ
def dTupOf (a : DE) : DE := fun δ κ X Q => a δ κ X fun x κ1 => fTup x κ1 Q
def fRev (m : Bool) : D → Kap → DQ → Prop := fun x κ Q => ∃ ys, view x κ = some (.lst, ys) ∧ fNew m .lst ys.reverse κ Q
def dRev (m : Bool) (a : DE) : DE := fun δ κ X Q => a δ κ X fun x κ1 => fRev m x κ1 Q
section
variable {X : Cx} {W : WX} {e : Expr} {a : DE} {p pos p1 p2 p3 : Pos} {k : Nat}
theorem pd_tupOf (hm : X.mg "tuple" = none) (ha : PED X W e a) (hg : Gl X "tuple" := by rfl) (na : starEach [e] X.env = (false, eval e X.env) :: starEach [] X.env := by rfl) : PED X W (.Call (.Name "tuple" p) [e] [] pos) (dTupOf a) :=
  pe_weak (pe_tupleOf hg hm ha na) fun σ H Q ⟨F, ρ, κ, δ, XD, QD, S, R, h, P, PX⟩ => ⟨F, ρ, κ, δ, XD, _, S, R, h, fun F1 ρ1 κ1 H1 x v e1 S1 R1 h0 => by
    rcases h0 with ⟨ys, h1, h3⟩ | ⟨ys, rfl, h3⟩
    · obtain ⟨q, vs, rfl, hk, rl⟩ := view_at S1 R1 h1
      refine .inl ⟨q, vs, rfl, SqL.of hk, fun b hb => ?_⟩
      obtain ⟨ex, S2⟩ := S1.laid (p := b) (o := .tup vs) hb
      exact P _ _ _ _ _ _ (e1.trans ex) S2 (.node (k := .tup) (.inl (.inl upd_same)) (rl.ext ex)) h3
    · cases R1 with
      | @node _ _ q ws hk2 rl2 => exact .inr ⟨q, ws, rfl, sqt_ext S1.sub hk2, P _ _ _ _ _ _ e1 S1 (.node (k := .tup) hk2 rl2) h3⟩, PX⟩
theorem RepL.rev {C : Ctx} {F : Hp} {ρ : Loc0} {xs : List D} {vs : List V} (r : RepL C F ρ xs vs) : RepL C F ρ xs.reverse vs.reverse := RepL.reverse r
theorem pd_rev {kc : Nat} (m : Bool) (ha : PED X W e a) : PED X W (.Subscript e (.Slice none none (some (.UnaryOp .USub (.Constant (.int 1) kc p1) p2)) p3) pos) (dRev m a) :=
  pe_weak (pe_revL ha) fun σ H Q ⟨F, ρ, κ, δ, XD, QD, S, R, h, P, PX⟩ => ⟨F, ρ, κ, δ, XD, _, S, R, h, fun F1 ρ1 κ1 H1 x v e1 S1 R1 ⟨ys, h1, h2⟩ => by
    obtain ⟨q, vs, rfl, hk, rl⟩ := view_at S1 R1 h1
    refine ⟨q, vs, rfl, SqL.of hk, fun b hb => ?_⟩
    cases m with
    | false =>
      obtain ⟨ex, S2⟩ := S1.laid (p := b) (o := .lst vs.reverse) hb
      exact P _ _ _ _ _ _ (e1.trans ex) S2 (.node (k := .lst) upd_same (RepL.reverse (rl.ext ex))) h2
    | true =>
      obtain ⟨n, hn⟩ := S1.fresh
      obtain ⟨ρ2, e2, hr2, S2⟩ := S1.cell (o := .lst vs.reverse) (k := .lst) (vs := vs.reverse) (xs := ys.reverse) hb (fun _ q => q) (RepL.reverse rl) hn
      exact P _ _ _ _ _ _ (e1.trans e2) S2 (.cell hr2) (h2 n hn), PX⟩
end
/-! ### name += number -/
def fAddI : D2 := fun x y κ Q => ∃ i j, x = .int i ∧ y = .int j ∧ Q (.int (i + j)) κ
section
variable {X : Cx} {W : WX} {e : Expr} {a : DE} {x : Str} {pos pos' : Pos} {k : Nat}
theorem sd_augI (i : Nat) (hN : X.N.Nodup) (ha : PED X W e a) (hi : X.N[i]? = some x := by rfl) (hx : L2.Loc X.env.scope x := by first | exact Or.inl rfl | exact Or.inr rfl)
    (hf : X.fn x = true ∨ X.env.scope.names.lookup x = some .local := by first | exact .inl rfl | exact .inr rfl | assumption) : PSD X W (.AugAssign (.Name x pos') .Add e pos) (sAug i fAddI a) :=
  ps_weak (ps_aug hN hi hx ha ip_add hf) fun T σ H ⟨F, ρ, κ, δ, XD, DD, S, R, ⟨d, h0, h⟩, P, PX⟩ => by
    obtain ⟨v, hv, rv⟩ := R.2 i _ h0
    refine ⟨v, hv, F, ρ, κ, δ, XD, _, S, R, h, fun F1 ρ1 κ1 H1 y w e1 S1 R1 ⟨p, q, h1, h2, h3⟩ => ?_, PX⟩
    subst h1 h2
    cases rv
    cases R1
    exact ⟨p, q, rfl, rfl, P.nx _ _ _ _ _ _ e1 S1 ((R.ext e1).set (.int _) i) h3⟩
end
end DL

/-! DLq: defs held by names and by a dict of the top, dict(pairs), d[k], str of a tuple, a try that runs through. -/
namespace DL
open PySem PySem.Spec PyProof.Rows L2
/-! ### a dict of the top whose values are defs -/
def TabK (K : PySem.W.Frag) (w : World) (mg : Str → Option Value) (x : Str) (tab : List (Str × Str)) : Prop := ∃ p, mg x = some (.ref p) ∧ ∀ q ∈ tab, ∃ f, mg q.2 = some (.ref f) ∧ KDct K w p q.1 (.ref f)
def dTab (tab : List (Str × Str)) (a : DE) : DE := fun δ κ X Q => a δ κ X fun x κ1 => ∃ z g, x = .str z ∧ (z, g) ∈ tab ∧ Q (.glb g) κ1
section
variable {X : Cx} {W : WX} {x : Str} {e : Expr} {a : DE} {p pos : Pos} {tab : List (Str × Str)}
theorem pd_tab (T : TabK X.K X.w X.mg x tab) (ha : PED X W e a) (hg : Gl X x := by rfl) (hdb : (x == ("__debug__" : Str)) = false := by decide) (hs : PlainIx e := by exact fun _ _ => rfl) : PED X W (.Subscript (.Name x p) e pos) (dTab tab a) := by
  obtain ⟨ad, hm, ht⟩ := T
  refine pe_weak (pe_ix ix_kdict (pe_glob (v := .ref ad) hg hm rfl hdb) ha hs) fun σ H Q ⟨F, ρ, κ, δ, XD, QD, S, R, h, P, PX⟩ => ?_
  refine ⟨F, ρ, κ, δ, XD, _, S, R, h, fun F1 ρ1 κ1 H1 x1 v e1 S1 R1 ⟨z, g, h1, h2, h3⟩ => ?_, PX⟩
  subst h1
  cases R1
  obtain ⟨f, hf, kd⟩ := ht _ h2
  exact ⟨ad, z, _, rfl, rfl, kd, P _ _ _ _ _ _ e1 S1 (.glb hf) h3⟩
end
end DL
namespace DL
open PySem PySem.Spec PyProof.Rows L2
/-! ### a def that a name holds, called -/
def dCallV (i : Nat) (tab : List (Str × DSp)) (as : DA) : DE := fun δ κ X Q => ∃ g sp, δ[i]? = some (some (.glb g)) ∧ (g, sp) ∈ tab ∧ as δ κ X fun xs κ1 => sp xs κ1 (X δ) Q
def OkV (P : Program) (w : World) (K : PySem.W.Frag) (mg : Str → Option Value) (base : Heap) (k : Nat) (tab : List (Str × DSp)) : Prop := ∀ q ∈ tab, ∃ ps, Ok P w K mg base k q.1 ps q.2
section
variable {X : Cx} {W : WX} {k i : Nat} {x : Str} {e : Expr} {es : List Expr} {as : DA} {p pos : Pos} {tab : List (Str × DSp)}
theorem pd_callV (i : Nat) (G : Good k X W) (T : OkV X.prog X.w X.K X.mg X.base k tab) (ha : PAD X W (e :: es) as) (hN : X.N[i]? = some x := by rfl) (hv : Vis X.env.scope x := by first | exact Or.inl rfl | exact Or.inr (Or.inl rfl) | exact Or.inr (Or.inr rfl))
    (hdb : (x == ("__debug__" : Str)) = false := by decide) (hcd : (x == ("__classdict__" : Str)) = false := by decide)
    (he : starEach (e :: es) X.env = (false, eval e X.env) :: starEach es X.env := by rfl) (hpl : (backTo pos (starEach es X.env)).any (·.1) = false := by rfl) : PED X W (.Call (.Name x p) (e :: es) [] pos) (dCallV i tab as) := by
  refine ⟨fun pins s σ H Q I ⟨F, ρ, κ, δ, XD, QD, S, R, ⟨g, sp, h1, h2, h⟩, P, PX⟩ => ?_⟩
  obtain ⟨ps, f, fd, o⟩ := T _ h2
  obtain ⟨v, hs, rv⟩ := R.2 i _ h1
  cases rv with
  | @glb _ a hm =>
    obtain rfl : a = f := by
      have := hm.symm.trans o.m
      injection this with this
      injection this
    refine wpAny_Call_Name_kw (thn ((pe_var (pos := p) hN hv hdb hcd).run pins s σ H (fun v H1 => v = .ref a ∧ H1 = H) I ⟨.ref a, hs, rfl, rfl⟩) fun u s1 ⟨v, H1, I1, r1, q1⟩ => ?_)
    obtain ⟨rfl, rfl⟩ := q1
    cases r1
    refine PySem.W.callWith_K (h₀ := X.base) I.ok.mod.kin o.kp (thn (ha.run pos pins s1 σ H1 (fun vs H2 => ∃ F1 ρ1 κ1 xs, Ext F ρ F1 ρ1 ∧ StR (CtxOf X) F1 ρ1 κ1 H2 ∧ RepL (CtxOf X) F1 ρ1 xs vs ∧ sp xs κ1 (XD δ) QD) I1
      ⟨F, ρ, κ, δ, XD, _, S, R, h, fun F1 ρ1 κ1 H1 xs vs e1 S1 R1 h1 => ⟨F1, ρ1, κ1, xs, e1, S1, R1, h1⟩, PX⟩) fun us s2 ⟨vs, H2, I2, r1, F2, ρ1, κ1, xs, e1, S1, R1, h1⟩ => ⟨I2.kIn, ?_⟩) he hpl
    have hl : us.length = ps.length := by
      rw [← o.fn.len _ _ _ _ h1, R1.length, Paired.length r1]
    have hb := o.bd s2 us I2.kIn (by rw [List.append_nil]; exact hl)
    rw [List.append_nil] at hb
    exact run_fnG G o.fn (args := ⟨us, []⟩) I2 hb r1 S1 (R.ext e1) R1 h1 (P.ext e1) (PX.ext e1)
end
/-! ### a try that runs through -/
def sThru (b : DS) : DS := fun δ κ _ T => b δ κ (fun _ _ _ _ => False) T
def W0 : WX := fun _ _ _ _ => False
theorem Good.nox {k : Nat} {X : Cx} {W : WX} (g : Good k X W) : Good k X.nox W0 := ⟨fun _ _ x => by
  obtain ⟨_, _, _, _, _, _, _, _, _, _, _, _, _, _, _, _, z⟩ := x
  exact z.elim, PassesOwn.never, g.rm, g.gd, g.sm, g.calm, g.nd⟩
theorem sd_thru {X : Cx} {W : WX} {body : List Stmt} {h0 : ExceptHandler} {hs : List ExceptHandler} {b : DS} {pos : Pos} (hb : PSsD X.nox W0 body b) : PSD X W (.Try body (h0 :: hs) [] [] pos) (sThru b) :=
  ps_weak (ps_try_thru0 hb) fun T σ H ⟨F, ρ, κ, δ, XD, DD, S, R, h, P, PX⟩ => ⟨F, ρ, κ, δ, _, DD, S, R, h, P, fun _ _ _ _ _ _ _ _ _ _ _ _ _ _ z => z.elim⟩
end DL
namespace DL
open PySem PySem.Spec PyProof.Rows L2
/-! ### str of a number, of a tuple -/
def fStrR : DN := fun xs κ Q => match xs with
  | [.int i] => i.natAbs.log2 < 1920 ∧ Q (.str (toString i)) κ
  | [.node .tup ys] => ∃ p, Pd κ (.node .tup ys) p ∧ p.showable = true ∧ p.depth ≤ 60 ∧ p.shown.length ≤ sizeLine ∧ Q (.str p.shown) κ
  | _ => False
def rStrT (C : Ctx) : List V → Hp → VK → Prop := fun vs H Q => ∃ F ρ κ ys v p, vs = [v] ∧ StR C F ρ κ H ∧ Rep C F ρ (.node .tup ys) v ∧ Pd κ (.node .tup ys) p ∧ p.showable = true ∧ p.depth ≤ 60 ∧ p.shown.length ≤ sizeLine ∧ Q (.str p.shown) H
theorem sim_strR {C : Ctx} : SimN C fStrR (fun xs H Q => (∃ i, xs = [.int i] ∧ i.natAbs.log2 < 1920 ∧ Q (.str (toString i)) H) ∨ rStrT C xs H Q) := by
  intro F ρ κ H xs vs QD Q S r h P
  match xs, h with
  | [.int i], h =>
    obtain ⟨v, rfl, rx⟩ := repL1 r
    cases rx
    exact .inl ⟨i, rfl, h.1, P _ _ _ _ _ _ (Ext.refl _ _) S (.str _) h.2⟩
  | [.node .tup ys], ⟨p, h1, h2, h3, h4, h5⟩ =>
    obtain ⟨v, rfl, rx⟩ := repL1 r
    exact .inr ⟨F, ρ, κ, ys, v, p, rfl, S, rx, h1, h2, h3, h4, P _ _ _ _ _ _ (Ext.refl _ _) S (.str _) h5⟩
section
variable {X : Cx} {W : WX} {k : Nat} {e : Expr} {es : List Expr} {a b : DE} {as : DA} {pos p : Pos}
theorem call_strT (g : Good k X W) : CallR X (.type "str") (rStrT (CtxOf X)) := by
  intro pins s σ H xs us Q I r ⟨F, ρ, κ, ys, v, p, e, S, rx, h1, h2, h3, h4, h5⟩
  subst e
  obtain ⟨u, rfl, rv⟩ := vals1 r
  have hu : X.A.units + (p.depth + 3) < cLine := by have := g.rm.units; omega
  obtain ⟨as, hr, hn⟩ := Pd.reads I (Inv.sysm I g.sm) S h1 rx rv
  cases h1 with
  | lst h t => cases h
  | dct h t => cases h
  | tup h t =>
    cases hr with
    | tuple q1 q2 q3 q4 => exact str_of_reads (.tuple q1 q2 q3 q4) h2 (fun _ => hn) g.gd hu (fun _ _ e => e) (fun h' u tk hk => ⟨.str _, H, I.kept hk, ⟨_, rfl⟩, h5⟩) h4
end
/-! ### dict(pairs) -/
def pairD (p : Key × D) : D := .node .tup [keyD p.1, p.2]
def fDictOf : DN := fun xs κ Q => match xs with
  | [x] => ∃ (ks : List Key) (ds : List D), ks.length = ds.length ∧ ks.Nodup ∧ view x κ = some (.lst, (ks.zip ds).map pairD) ∧ Q (.node (.dct ks) ds) κ
  | _ => False
theorem pairs_rep {C : Ctx} {F : Hp} {ρ : Loc0} {κ : Kap} {H : Hp} (S : StR C F ρ κ H) : ∀ {ks : List Key} {ds : List D} {vs : List V}, ks.length = ds.length → RepL C F ρ ((ks.zip ds).map pairD) vs →
    ∃ (ps : List Addr) (ws : List V), vs = ps.map V.ref ∧ RepL C F ρ ds ws ∧ ws.length = ks.length ∧ Paired (fun p kv => SqT C.K H p [kV kv.1, kv.2]) ps (ks.zip ws)
  | [], [], _, _, .nil => ⟨[], [], rfl, .nil, rfl, .nil⟩
  | k :: ks, d :: ds, _, hl, .cons h t => by
    obtain ⟨ps, ws, h1, h2, h3, h4⟩ := pairs_rep S (ks := ks) (ds := ds) (Nat.succ.inj hl) t
    subst h1
    have key : ∀ {v : V}, Rep C F ρ (keyD k) v → v = kV k := fun {v} r => by
      cases k with
      | inl i => cases r; rfl
      | inr x => cases r; rfl
    unfold pairD at h
    cases h with
    | node hk rr =>
      cases rr with
      | cons r1 rr =>
        cases rr with
        | cons r2 rr =>
          cases rr
          obtain rfl := key r1
          exact ⟨_ :: ps, _ :: ws, rfl, .cons r2 h2, by rw [List.length_cons, List.length_cons, h3], .cons (sqt_ext S.sub hk) h4⟩
theorem sim_dictOf {C : Ctx} : SimN C fDictOf (fun xs H Q => ∃ (a : Addr) (ps : List Addr) (kvs : List (Key × V)), xs = [.ref a] ∧ SqL C.K H a (ps.map V.ref) ∧ Paired (fun p kv => SqT C.K H p [kV kv.1, kv.2]) ps kvs ∧
    ∀ p, H p = none → Q (.ref p) (upd H p (.dK (mergeK [] kvs)))) := by
  intro F ρ κ H xs vs QD Q S r h P
  match xs, h with
  | [x], ⟨ks, ds, hl, hn, hv, hq⟩ =>
    obtain ⟨v, rfl, rx⟩ := repL1 r
    obtain ⟨a, us, rfl, hk, rl⟩ := view_at S rx hv
    obtain ⟨ps, ws, h1, h2, h3, h4⟩ := pairs_rep S hl rl
    subst h1
    have m1 : (ks.zip ws).map (·.1) = ks := List.map_fst_zip (by rw [h3]; exact Nat.le_refl _)
    have m2 : (ks.zip ws).map (·.2) = ws := List.map_snd_zip (by rw [h3]; exact Nat.le_refl _)
    refine ⟨a, ps, ks.zip ws, rfl, SqL.of hk, h4, fun p hp => ?_⟩
    have em : mergeK [] (ks.zip ws) = ks.zip ws := by rw [merge_nodup (by rw [m1]; exact hn)]; rfl
    rw [em]
    obtain ⟨ex, S2⟩ := S.laid (p := p) (o := .dK (ks.zip ws)) hp
    exact P _ _ _ _ _ _ ex S2 (.node (k := .dct ks) ⟨_, upd_same, m1, m2⟩ (h2.ext ex)) hq
/-! ### d[k] of such a dict -/
def fDk : D2 := fun x y κ Q => ∃ ks ds k d, view x κ = some (.dct ks, ds) ∧ keyO y = some k ∧ ((ks.zip ds).find? fun p => decide (p.1 = k)) = some (k, d) ∧ Q d κ
theorem find_rep {C : Ctx} {F : Hp} {ρ : Loc0} {k : Key} {d : D} : ∀ {ks : List Key} {ds : List D} {kvs : List (Key × V)}, kvs.map (·.1) = ks → RepL C F ρ ds (kvs.map (·.2)) → ((ks.zip ds).find? fun p => decide (p.1 = k)) = some (k, d) → ∃ v, valV kvs k = some v ∧ Rep C F ρ d v
  | _, _, [], h1, _, h3 => by
    subst h1
    cases h3
  | _, [], kv :: kvs, h1, h2, _ => by cases h2
  | _, d0 :: ds, kv :: kvs, h1, h2, h3 => by
    subst h1
    cases h2 with
    | cons r rr =>
      rw [List.map_cons, List.zip_cons_cons, List.find?_cons] at h3
      by_cases e : kv.1 = k
      · rw [decide_eq_true (by exact e)] at h3
        have := congrArg Prod.snd (Option.some.inj h3)
        subst this
        exact ⟨kv.2, by unfold valV; rw [List.find?_cons, decide_eq_true e]; rfl, r⟩
      · rw [decide_eq_false (by exact e)] at h3
        obtain ⟨v, h4, h5⟩ := find_rep rfl rr h3
        exact ⟨v, by unfold valV at h4 ⊢; rw [List.find?_cons, decide_eq_false e]; exact h4, h5⟩
section
variable {X : Cx} {W : WX} {k : Nat} {e1 e2 : Expr} {a b : DE} {pos : Pos}
theorem pd_dk (G : Good k X W) (ha : PED X W e1 a) (hb : PED X W e2 b) (hs : NoSl e2 := by exact fun _ _ => rfl) : PED X W (.Subscript e1 e2 pos) (dOp fDk a b) :=
  pe_weak (pe_dget (by have := G.rm.units; omega) ha hb hs) fun σ H Q ⟨F, ρ, κ, δ, XD, QD, S, R, h, P, PX⟩ => ⟨F, ρ, κ, δ, XD, _, S, R, h, fun F1 ρ1 κ1 H1 x v e1 S1 R1 h1 => ⟨F1, ρ1, κ1, δ, XD, _, S1, R.ext e1, h1, fun F2 ρ2 κ2 H2 y u e2 S2 R2 ⟨ks, ds, k, d, h2, h3, h4, h5⟩ => by
    obtain ⟨q, vs, rfl, ⟨kvs, hk, hk1, hk2⟩, rl⟩ := view_at S2 (R1.ext e2) h2
    subst hk2
    have := keyO_rep R2 h3
    subst this
    obtain ⟨w, g1, g2⟩ := find_rep hk1 rl h4
    refine ⟨q, w, rfl, ?_, P _ _ _ _ _ _ (e1.trans e2) S2 g2 h5⟩
    rw [← g1]
    exact DGet.k hk, PX.ext e1⟩, PX⟩
end
end DL
namespace DL
open PySem PySem.Spec PyProof.Rows L2
theorem tabK_of {K : PySem.W.Frag} {w : World} {mg : Str → Option Value} {x : Str} {tab : List (Str × Str)} {p : Addr} {ks : List Str} (hm : mg x = some (.ref p)) (hd : He.dicW K p = some (He.keysIn w.params ks))
    (h : ∀ q ∈ tab, ∃ f, mg q.2 = some (.ref f) ∧ PySem.W.nsIn K p q.1 = some (some (.ref f))) : TabK K w mg x tab := by
  obtain ⟨es, n, kd⟩ := He.dicW_ok hd
  refine ⟨p, hm, fun q hq => ?_⟩
  obtain ⟨f, h1, h2⟩ := h q hq
  exact ⟨f, h1, es, n, .ref f, kd.at_, kd.lit, h2, rfl⟩
end DL

/-! DLr: within an except suite: two names at once. -/
namespace DL
open PySem PySem.Spec PyProof.Rows L2 HotX
section
variable {prog : Program} {w : World} {A : Around} {E : Value → Shared → Prop} {s : Shared}
theorem tup_end_hot {it t x1 : Addr} {i : Nat} {items : Array Value} {Q : Option Value → Shared → Prop} (hot : HotAt A x1 s.heap) (ne : x1 ≠ it) (iter : IsTupIter s.heap it t i) (tup : IsTup s.heap t items) (over : items[i]? = none)
    (want : ∀ h', Heap.ExtBut it s.heap h' → Q none { s with heap := h' }) : wpAny (model prog w) A (pyNext (.ref it)) Q E s := by
  obtain ⟨ob, atI, clsI, datI⟩ := id iter
  obtain ⟨obT, atT, _, mT, datT⟩ := tup
  obtain ⟨marked, o1, vs1, at1, dat1, ctx1⟩ := hot
  unfold pyNext
  refine wpAny_bind (wpAny_attempt
    (wpAny_callSpecial?_slot (name := Str.ofString "__next__") iter.typeIs slot_tupleiter_next (wpAny_call_entry slot_tupleiter_next iter.typeIs entry_tupleiter_next ?_ (args_tupleiter_next _))))
  show wpAny _ _ (field (.ref it) 0 >>= _) _ _ s
  refine wpAny_bind (wpAny_field atI datI (x := .ref t) rfl ?_)
  show wpAny _ _ (ite ((Value.ref t == Value.none) = true) _ _) _ _ s
  rw [if_neg (show ¬ ((Value.ref t == Value.none) = true) from Bool.false_ne_true)]
  show wpAny _ _ (field (.ref it) 1 >>= _) _ _ s
  refine wpAny_bind (wpAny_field atI datI (x := .int i 0) rfl ?_)
  show wpAny _ _ (seqItems? (.ref t) >>= _) _ _ s
  refine wpAny_bind (wpAny_seqItems atT datT ?_)
  simp only [Int.toNat_natCast, over]
  refine wpAny_bind (wpAny_rule (wpAny_bind (wpAny_setField atI datI (by simp) ?_)))
  have at2 := (Heap.SameBut.update (h := s.heap) (a := it) (f := Obj.mapFields (·.setIfInBounds 0 .none))).extBut
  show wpAny _ _ (newExc (.type "StopIteration") [] >>= _) _ _ _
  refine wpAny_bind ?_
  simp only [newExc, newTuple]
  refine wpAny_bind (wpAny_newObj_type ?_ (by size_fits))
  refine wpAny_bind (m := firstArgMember _ _)
    (wpAny_of_eq (a := Value.none) (by first | rfl | (simp only [firstArgMember]; rfl)) ?_)
  refine wpAny_newObj_type ?_ (by size_fits)
  have kept := Heap.get?_push_of_some { cls := .type "tuple", data := .seq #[] } (at2 x1 o1 ne at1)
  refine raiseNew_hot ⟨marked, o1, vs1, Heap.get?_push_of_some _ kept, dat1, ctx1⟩
    (Nat.ne_of_lt (Heap.lt_size kept)) (Heap.get?_push_size _ rfl) rfl (by first | (simp; done) | (simp; omega) | (simp only [Array.size_append]; simp; omega)) ?_
  refine wpAny_bind
    (wpAny_isInstance (T := "StopIteration") (b := true) ⟨_, Heap.get?_update_self _ (Heap.get?_push_size _ rfl) rfl, rfl⟩ isSubtype_stop ?_)
  refine wpAny_pure (want _ fun b o nb e => ?_)
  have e2 := Heap.get?_push_of_some { cls := .type "tuple", data := .seq #[] } (at2 b o nb e)
  rw [Heap.get?_update_other _ _ (Nat.ne_of_gt (Heap.lt_size e2))]
  exact Heap.get?_push_of_some _ e2
theorem unpack_hot {t x1 : Addr} {items : Array Value} {Q : List Value → Shared → Prop} (hot : HotAt A x1 s.heap) (tup : IsTup s.heap t items)
    (want : ∀ h', Heap.ExtBut s.heap.objs.size s.heap h' → Q items.toList { s with heap := h' }) : wpAny (model prog w) A (unpackItems (.ref t) items.size none) Q E s := by
  have below : t ≠ s.heap.objs.size := by
    obtain ⟨_, z, _⟩ := tup
    exact Nat.ne_of_lt (Heap.lt_size z)
  unfold unpackItems
  refine wpAny_bind ?_
  unfold notIterableAtAll
  refine wpAny_bind (wpAny_specialOf tup.typeIs slot_tuple_iter.lookup (wpAny_pure ?_))
  simp only [Bool.false_eq_true, if_false]
  refine wpAny_bind (wpAny_holding (iter_tuple tup (wpAny_bind (wpAny_holding
    (draw_tuple below items.size 0 _ _ ⟨_, Heap.get?_push_size _ rfl, rfl, rfl⟩ (tup.push _) (by omega) fun h1 iter1 same1 => ?_)))))
  have whole : List.take items.size (List.drop 0 items.toList) = items.toList := List.take_of_length_le (by simp)
  rw [whole, if_neg (by simp)]
  have tup1 : IsTup h1 t items := (tup.push _).extBut same1.extBut below
  obtain ⟨marked, o1, vs1, at1, dat1, ctx1⟩ := hot
  have ne1 : x1 ≠ s.heap.objs.size := Nat.ne_of_lt (Heap.lt_size at1)
  refine wpAny_bind (wpAny_holding
    (tup_end_hot (x1 := x1) ⟨marked, o1, vs1, same1.extBut x1 o1 ne1 (Heap.get?_push_of_some _ at1), dat1, ctx1⟩ ne1 iter1 tup1 (by simp) fun h2 e2 => ?_))
  simp only [Option.isSome_none, Bool.false_eq_true, if_false]
  exact wpAny_pure (want h2 fun b o nb e => e2 b o nb (same1.extBut b o nb (Heap.get?_push_of_some _ e)))
end
theorem Caught.hot {X : Cx} {a C : Addr} {dd : Option Addr} {oe : Obj} (Z : Caught X a C dd oe) (pn : List (Addr × Obj)) : L2H.HotC (X.suite a ((a, oe) :: pn)) := by
  obtain ⟨vs, e⟩ := Z.f
  exact ⟨(a, oe), ⟨rfl, vs, e, Z.z.2.2 vs e⟩, List.mem_cons_self⟩
theorem ps_parH {X : Cx} {i j : Nat} {x y : Str} {a b : Expr} {ta : TA} {px py pt pos : Pos} {kt k2 pt2} (hot : L2H.HotC X) (nd : X.N.Nodup) (hi : X.N[i]? = some x) (hj : X.N[j]? = some y) (hij : i ≠ j)
    (hx : X.env.scope.names.lookup x = some .local) (hy : X.env.scope.names.lookup y = some .local) (ha : PA X [a, b] ta)
    (hw : swappedStores [.Tuple [.Name x px, .Name y py] kt pt] (.Tuple [a, b] k2 pt2) X.env = pure (some [x, y]))
    (hs : swapsWithSole [.Tuple [.Name x px, .Name y py] kt pt] (.Tuple [a, b] k2 pt2) pos.line X.env = pure false := by rfl) :
    PS X (.Assign [.Tuple [.Name x px, .Name y py] kt pt] (.Tuple [a, b] k2 pt2) pos) (tPar i j ta) := by
  refine ⟨fun pins s σ H D I todo => ?_⟩
  rw [exec_Assign_arm]
  refine wpAny_bind (wpAny_standAt ?_)
  rw [hs]
  refine wpAny_bind (wpAny_pure ?_)
  rw [if_neg (by decide)]
  refine wpAny_bind (Tuple_ (thn (ha.run _ pins s σ H _ I todo) ?_))
  rintro us s1 ⟨_, H1, I1, rel, v, w, rfl, q1⟩
  have two : ∃ u1 u2, us = [u1, u2] ∧ RelV v u1 ∧ RelV w u2 := by
    cases rel with
    | cons r1 rel =>
      cases rel with
      | cons r2 rel =>
        cases rel
        exact ⟨_, _, rfl, r1, r2⟩
  obtain ⟨u1, u2, rfl, rv, rw'⟩ := two
  refine wpAny_newObj_type ?_ (by show 2 ≤ sizeLine; decide)
  have I2 : L2.Inv X pins σ H1 { s1 with heap := s1.heap.push { cls := .type "tuple", data := .seq [u1, u2].toArray } } :=
    I1.kept (t' := s1.toks) fun b o e => Heap.get?_push_of_some _ e
  obtain ⟨x1, hot2⟩ := hot.at I2
  rw [hw]
  refine wpAny_bind (wpAny_pure ?_)
  show wpAny (model X.prog X.w) X.A (do
    rule "assign.swapped-stores"
    let items ← unpackItems (.ref s1.heap.objs.size) 2 none
    assignInOrder [fun v => bindName X.env y v, fun v => bindName X.env x v] items.reverse
    pure Flow.next) _ _ _
  refine wpAny_bind (wpAny_rule (wpAny_bind
    (unpack_hot (items := #[u1, u2]) hot2 (IsTup.new s1.heap _) fun h' ext => ?_)))
  have I3 := I2.kept (h' := h') (t' := s1.toks) fun b o e => ext b o (Nat.ne_of_lt (Heap.lt_size e)) e
  show wpAny _ _ (assignInOrder [fun v => bindName X.env y v, fun v => bindName X.env x v] [u2, u1] >>= fun _ => pure Flow.next) _ _ _
  refine wpAny_bind (assignInOrder_cons (wpAny_bindName
    (store_ok I3 nd hj (.inl hy) rw' (fun s2 I4 => ?_) (.inr hy))))
  refine assignInOrder_cons (wpAny_bindName
    (store_ok I4 nd hi (.inl hx) rv (fun s3 I5 => assignInOrder_nil (wpAny_pure ?_)) (.inr hx)))
  rw [List.set_comm _ _ (Ne.symm hij)] at I5
  exact ⟨_, H1, I5, q1⟩
/-! ### the greatest of three -/
def mx3 (i j l : Int) : Int := if j > i then (if l > j then l else j) else (if l > i then l else i)
def fMax3 : DN := fun xs κ Q => match xs with
  | [.int i, .int j, .int l] => Q (.int (mx3 i j l)) κ
  | _ => False
theorem sim_max3 {C : Ctx} : SimN C fMax3 (fun xs H Q => ∃ i j l, xs = [.int i, .int j, .int l] ∧ Q (.int (mx3 i j l)) H) := by
  intro F ρ κ H xs vs QD Q S r h P
  match xs, h with
  | [.int i, .int j, .int l], h =>
    cases r with
    | cons r1 r =>
      obtain ⟨v, u, rfl, r2, r3⟩ := repL2 r
      cases r1
      cases r2
      cases r3
      exact ⟨i, j, l, rfl, P _ _ _ _ _ _ (Ext.refl _ _) S (.int _) h⟩
theorem call_max3 {X : Cx} (calm : X.calm = true) : CallR X (.builtin "max") (fun xs H Q => ∃ i j l, xs = [.int i, .int j, .int l] ∧ Q (.int (mx3 i j l)) H) := by
  rintro pins s σ H _ us Q I r ⟨i, j, l, rfl, q⟩
  cases r with
  | cons r1 r =>
    obtain ⟨u2, u3, rfl, ⟨t2, rfl⟩, ⟨t3, rfl⟩⟩ := vals2 r
    obtain ⟨t1, rfl⟩ := r1
    refine max_three_ints (I.ok.hd calm) fun h' tk k => ⟨_, H, I.kept k, ?_, q⟩
    unfold mx3
    by_cases h1 : j > i
    · rw [if_pos h1, if_pos h1]
      by_cases h2 : l > j
      · rw [if_pos h2, if_pos h2]
        exact ⟨_, rfl⟩
      · rw [if_neg h2, if_neg h2]
        exact ⟨_, rfl⟩
    · rw [if_neg h1, if_neg h1]
      by_cases h2 : l > i
      · rw [if_pos h2, if_pos h2]
        exact ⟨_, rfl⟩
      · rw [if_neg h2, if_neg h2]
        exact ⟨_, rfl⟩
end DL

/-! DLs: texts: f-strings, split, startswith, find, lstrip, int of a text, a text many times. -/
namespace DL
open PySem PySem.Spec PyProof.Rows L2
/-! ### methods -/
def fSS (g : Str → Str → D) : D2 := fun x y κ Q => match x, y with
  | .str a, .str b => Q (g a b) κ
  | _, _ => False
def fStw : D2 := fSS fun a b => .bl (Txt.startswith a b)
def fFnd : D2 := fSS fun a b => .int (Txt.find a b)
def fLst : D2 := fun x y κ Q => match x, y with
  | .str a, .str b => a.length ≤ sizeLine ∧ Q (.str (Txt.lstripChars a b)) κ
  | _, _ => False
def fSpl : D2 := fun x y κ Q => match x, y with
  | .str a, .str b => ((b.length == 0) = false ∧ a.length + 2 ≤ sizeLine) ∧ Q (.node .lst ((Txt.split a b).map D.str)) κ
  | _, _ => False
theorem strs_rep {C : Ctx} {F : Hp} {ρ : Loc0} : ∀ ys : List Str, RepL C F ρ (ys.map D.str) (ys.map V.str)
  | [] => .nil
  | y :: ys => .cons (.str y) (strs_rep ys)
theorem sim_stw {C : Ctx} : Sim2 C fStw (fun x y H Q => ∃ a b, x = .str a ∧ [y] = [.str b] ∧ Q (.bl (Txt.startswith a b)) H) := by
  intro F ρ κ H x y v u QD Q S rx ry h P
  cases x <;> first | exact h.elim | skip
  cases y <;> first | exact h.elim | skip
  cases rx
  cases ry
  exact ⟨_, _, rfl, rfl, P _ _ _ _ _ _ (Ext.refl _ _) S (.bl _) h⟩
theorem sim_fnd {C : Ctx} : Sim2 C fFnd (fun x y H Q => ∃ a b, x = .str a ∧ [y] = [.str b] ∧ Q (.int (Txt.find a b)) H) := by
  intro F ρ κ H x y v u QD Q S rx ry h P
  cases x <;> first | exact h.elim | skip
  cases y <;> first | exact h.elim | skip
  cases rx
  cases ry
  exact ⟨_, _, rfl, rfl, P _ _ _ _ _ _ (Ext.refl _ _) S (.int _) h⟩
theorem sim_lst {C : Ctx} : Sim2 C fLst (fun x y H Q => ∃ a b, x = .str a ∧ [y] = [.str b] ∧ a.length ≤ sizeLine ∧ Q (.str (Txt.lstripChars a b)) H) := by
  intro F ρ κ H x y v u QD Q S rx ry h P
  cases x <;> first | exact h.elim | skip
  cases y <;> first | exact h.elim | skip
  cases rx
  cases ry
  exact ⟨_, _, rfl, rfl, h.1, P _ _ _ _ _ _ (Ext.refl _ _) S (.str _) h.2⟩
theorem sim_spl {C : Ctx} : Sim2 C fSpl (fun x y H Q => ∃ a b, x = .str a ∧ [y] = [.str b] ∧ (b.length == 0) = false ∧ a.length + 2 ≤ sizeLine ∧ rNewStrs (Txt.split a b) H Q) := by
  intro F ρ κ H x y v u QD Q S rx ry h P
  cases x <;> first | exact h.elim | skip
  cases y <;> first | exact h.elim | skip
  cases rx
  cases ry
  refine ⟨_, _, rfl, rfl, h.1.1, h.1.2, fun p hp => ?_⟩
  obtain ⟨ex, S2⟩ := S.laid (p := p) (o := .lst ((Txt.split _ _).map V.str)) hp
  exact P _ _ _ _ _ _ ex S2 (.node (k := .lst) upd_same (strs_rep _)) h.2
section
variable {X : Cx} {W : WX} {e1 e2 : Expr} {a b : DE} {apos pos : Pos}
theorem pd_stw (ho : PED X W e1 a) (he : PED X W e2 b) (hs : starEach [e2] X.env = [(false, eval e2 X.env)] := by rfl) (hbase : attributeBase e1 "startswith" X.env (eval e1 X.env) = eval e1 X.env := by rfl) (hline : (apos.endLine == pos.line) = true := by rfl) :
    PED X W (.Call (.Attribute e1 "startswith" apos) [e2] [] pos) (dM1 fStw a b) := pe_weak (pe_m1 F.slot_str_startswith F.type_str_startswith mt_startswith ho he hs hbase hline) fun _ _ _ => lift_m1 sim_stw
theorem pd_fnd (ho : PED X W e1 a) (he : PED X W e2 b) (hs : starEach [e2] X.env = [(false, eval e2 X.env)] := by rfl) (hbase : attributeBase e1 "find" X.env (eval e1 X.env) = eval e1 X.env := by rfl) (hline : (apos.endLine == pos.line) = true := by rfl) :
    PED X W (.Call (.Attribute e1 "find" apos) [e2] [] pos) (dM1 fFnd a b) := pe_weak (pe_m1 F.slot_str_find F.type_str_find mt_find ho he hs hbase hline) fun _ _ _ => lift_m1 sim_fnd
theorem pd_lst1 (ho : PED X W e1 a) (he : PED X W e2 b) (hs : starEach [e2] X.env = [(false, eval e2 X.env)] := by rfl) (hbase : attributeBase e1 "lstrip" X.env (eval e1 X.env) = eval e1 X.env := by rfl) (hline : (apos.endLine == pos.line) = true := by rfl) :
    PED X W (.Call (.Attribute e1 "lstrip" apos) [e2] [] pos) (dM1 fLst a b) := pe_weak (pe_m1 F.slot_str_lstrip F.type_str_lstrip mt_lstripChars ho he hs hbase hline) fun _ _ _ => lift_m1 sim_lst
theorem pd_spl (ho : PED X W e1 a) (he : PED X W e2 b) (hs : starEach [e2] X.env = [(false, eval e2 X.env)] := by rfl) (hbase : attributeBase e1 "split" X.env (eval e1 X.env) = eval e1 X.env := by rfl) (hline : (apos.endLine == pos.line) = true := by rfl) :
    PED X W (.Call (.Attribute e1 "split" apos) [e2] [] pos) (dM1 fSpl a b) := pe_weak (pe_split ho he hs hbase hline) fun _ _ _ => lift_m1 sim_spl
end
/-! ### f-strings -/
def fFmt (x : D) (κ : Kap) (Q : DQ) : Prop := match x with
  | .str y => y.length ≤ sizeLine ∧ Q (.str y) κ
  | .int i => i.natAbs.log2 < 1920 ∧ Q (.str (toString i)) κ
  | _ => False
def dFmt (a : DE) : DE := fun δ κ X Q => a δ κ X fun x κ1 => fFmt x κ1 Q
def dJs : List DE → Str → DEnv → Kap → DX → (Str → Kap → Prop) → Prop
  | [], acc, _, κ, _, Q => Q acc κ
  | a :: as, acc, δ, κ, X, Q => a δ κ X fun x κ1 => ∃ y : Str, x = .str y ∧ (acc ++ y).length ≤ sizeLine ∧ dJs as (acc ++ y) δ κ1 X Q
def dJoined (as : List DE) : DE := fun δ κ X Q => dJs as Str.empty δ κ X fun out κ1 => Q (.str out) κ1
section
variable {X : Cx} {W : WX} {e v1 v2 : Expr} {es rest : List Expr} {a : DE} {as : List DE} {pos : Pos}
theorem pd_fmt (ha : PED X W e a) : PED X W (.FormattedValue e (-1) none pos) (dFmt a) := pe_weak (pe_fmt ha) fun σ H Q ⟨F, ρ, κ, δ, XD, QD, S, R, h, P, PX⟩ =>
  ⟨F, ρ, κ, δ, XD, _, S, R, h, fun F1 ρ1 κ1 H1 x v e1 S1 R1 h1 => by
    cases x <;> first | exact h1.elim | skip
    · cases R1
      exact .inr ⟨_, rfl, h1.1, P _ _ _ _ _ _ e1 S1 (.str _) h1.2⟩
    · cases R1
      exact .inl ⟨_, rfl, h1.1, P _ _ _ _ _ _ e1 S1 (.str _) h1.2⟩, PX⟩
abbrev PJD (X : Cx) (W : WX) (es : List Expr) (as : List DE) : Prop := PJ X es (as.map fun a => liftE (CtxOf X) W a)
theorem pj_nilD : PJD X W [] [] := .nil
theorem pj_consD (ha : PED X W e a) (hr : PJD X W es as) : PJD X W (e :: es) (a :: as) := .cons ha hr
theorem lift_js {C : Ctx} : ∀ {as : List DE} {acc : Str} {F : Hp} {ρ : Loc0} {κ : Kap} {δ : DEnv} {XD : DX} {QD : Str → Kap → Prop} {σ : L2.St} {H : Hp} {Q : Str → Hp → Prop}, StR C F ρ κ H → RepS C F ρ δ σ → dJs as acc δ κ XD QD →
    (∀ F' ρ' κ' H' out, Ext F ρ F' ρ' → StR C F' ρ' κ' H' → QD out κ' → Q out H') → PostX C F ρ XD W → tJs (as.map fun a => liftE C W a) acc σ H Q
  | [], _, _, _, _, _, _, _, _, _, _, S, R, h, P, PX => P _ _ _ _ _ (Ext.refl _ _) S h
  | a :: as, acc, F, ρ, κ, δ, XD, QD, σ, H, Q, S, R, h, P, PX =>
    ⟨F, ρ, κ, δ, XD, _, S, R, h, fun F1 ρ1 κ1 H1 x v e1 S1 R1 ⟨y, hy, hl, hr⟩ => by
      subst hy
      cases R1
      exact ⟨y, rfl, hl, lift_js S1 (R.ext e1) hr (fun F2 ρ2 κ2 H2 out e2 S2 q => P _ _ _ _ _ (e1.trans e2) S2 q) (PX.ext e1)⟩, PX⟩
theorem pd_joined (h : PJD X W (v1 :: v2 :: rest) as) : PED X W (.JoinedStr (v1 :: v2 :: rest) pos) (dJoined as) := pe_weak (pe_joined h) fun σ H Q ⟨F, ρ, κ, δ, XD, QD, S, R, h, P, PX⟩ =>
  lift_js S R h (fun F1 ρ1 κ1 H1 out e1 S1 q => P _ _ _ _ _ _ e1 S1 (.str _) q) PX
end
/-! ### int of a text -/
def fIntT : DN := fun xs κ Q => match xs with
  | [.str a] => ∃ n, PySem.intText? a = some n ∧ a.length ≤ 640 ∧ Q (.int n) κ
  | _ => False
theorem sim_intT {C : Ctx} : SimN C fIntT (fun xs H Q => ∃ a n, xs = [.str a] ∧ PySem.intText? a = some n ∧ a.length ≤ 640 ∧ Q (.int n) H) := by
  intro F ρ κ H xs vs QD Q S r h P
  match xs, h with
  | [.str a], ⟨n, h1, h2, h3⟩ =>
    obtain ⟨v, rfl, rx⟩ := repL1 r
    cases rx
    exact ⟨a, n, rfl, h1, h2, P _ _ _ _ _ _ (Ext.refl _ _) S (.int _) h3⟩
/-! ### a text many times -/
def fMulS : D2 := fun x y κ Q => match x, y with
  | .str a, .int n => MulOk a n ∧ Q (.str (Txt.mul a n)) κ
  | _, _ => False
theorem op_mulS {X : Cx} : OpR X (binaryOp .Mult) (fun x y H Q => ∃ a n, x = .str a ∧ y = .int n ∧ MulOk a n ∧ Q (.str (Txt.mul a n)) H) := by
  rintro pins s σ H x y v u Q I rx ry ⟨a, n, rfl, rfl, ok, q⟩
  obtain ⟨t, rfl⟩ := rx
  obtain ⟨t', rfl⟩ := ry
  exact PySem.SB.mul ok fun t2 k => ⟨.str (Txt.mul a n), H, I.tok k, ⟨_, rfl⟩, q⟩
theorem sim_mulS {C : Ctx} : Sim2 C fMulS (fun x y H Q => ∃ a n, x = .str a ∧ y = .int n ∧ MulOk a n ∧ Q (.str (Txt.mul a n)) H) := by
  intro F ρ κ H x y v u QD Q S rx ry h P
  cases x <;> first | exact h.elim | skip
  cases y <;> first | exact h.elim | skip
  cases rx
  cases ry
  exact ⟨_, _, rfl, rfl, h.1, P _ _ _ _ _ _ (Ext.refl _ _) S (.str _) h.2⟩
theorem pd_mulS {X : Cx} {W : WX} {e1 e2 : Expr} {a b : DE} {pos : Pos} (ha : PED X W e1 a) (hb : PED X W e2 b) : PED X W (.BinOp e1 .Mult e2 pos) (dOp fMulS a b) := pd_op op_mulS sim_mulS ha hb
end DL

/-! DLt: x, *y = a list. -/
namespace DL
open PySem PySem.Spec PyProof.Rows L2
section
variable {prog : Program} {w : World} {A : Around} {E : Value → Shared → Prop} {s : Shared}
theorem shiftS {I : Addr} {fp wr : List Addr} {G : Array GenState → Array GenState → Prop} {n : Nat} {P : Nat → Value → Prop} {St : Nat → Shared → Prop} (W : WalksS prog w A I fp wr G (n + 1) P St) :
    WalksS prog w A I fp wr G n (fun i v => P (i + 1) v) (fun i s => St (i + 1) s) where
  sub := W.sub
  grefl := W.grefl
  gtrans := W.gtrans
  frame := fun i => W.frame (i + 1)
  item := fun i s Q E hi st hQ => W.item (i + 1) s Q E (by omega) st hQ
  done := fun s Q E st hQ => W.done s Q E st hQ
  self := fun i => W.self (i + 1)
theorem unpack_star {l : Addr} {items : Array Value} {x : Value} {n : Nat} {Q : List Value → Shared → Prop} (calm : A.handled = none) (hl : s.heap.IsList l items) (h0 : items[0]? = some x) (hn : items.size = n + 1) (hz : n ≤ sizeLine)
    (want : ∀ (h' : Heap) (tk : Nat), s.toks ≤ tk → (∀ b o, s.heap.get? b = some o → h'.get? b = some o) →
      Q [x, .ref h'.objs.size] { s with heap := h'.push { cls := .type "list", data := .seq (items.toList.drop 1).toArray }, toks := tk }) :
    wpAny (model prog w) A (unpackItems (.ref l) 2 (some 1)) Q E s := by
  have ne : l ≠ s.heap.objs.size := by
    obtain ⟨_, z, _⟩ := hl
    exact Nat.ne_of_lt (Heap.lt_size z)
  unfold unpackItems
  refine wpAny_bind ?_
  unfold notIterableAtAll
  refine wpAny_bind (wpAny_specialOf hl.typeIs slot_list_iter.lookup (wpAny_pure ?_))
  simp only [Bool.false_eq_true, if_false]
  refine wpAny_bind (wpAny_holding (wpAny_pyIter_list hl ?_))
  generalize eI : s.heap.objs.size = it at ne
  have hit : (s.heap.push { cls := .type "list_iterator", data := .fields #[.ref l, .int 0 0] }).IsListIter it l 0 := by
    rw [← eI]
    exact ⟨_, Heap.get?_push_size _ rfl, rfl, rfl⟩
  refine wpAny_bind (wpAny_holding ?_)
  show wpAny _ _ (pyNext (.ref it) >>= _) _ _ _
  refine wpAny_bind (wpAny_pyNext_list_item hit (hl.push _) h0 fun h1 hit1 same1 => ?_)
  refine wpAny_bind (wpAny_holding ?_)
  show wpAny _ _ (pure []) _ _ _
  refine wpAny_pure (wpAny_pure ?_)
  rw [if_neg (show ¬ ([x] : List Value).length < 1 by show ¬ (1 < 1); omega)]
  have hl1 : h1.IsList l items := (hl.push _).extBut same1.extBut ne
  have W := (Walks.list (prog := prog) (w := w) (A := A.in1) calm it l ne items).toS
  rw [hn] at W
  have W1 := shiftS W
  refine wpAny_bind (wpAny_holding (wpAny_collect_iter (.inr (.inr (.inl rfl))) W1 (fun i s st => st.1.typeIs) ⟨hit1, hl1⟩ ?_ (by simp) (fun s' acc moved items' => ?_) hz))
  · intro b hb
    simp only [List.mem_cons, List.not_mem_nil, or_false] at hb
    rcases hb with rfl | rfl
    · obtain ⟨_, z, _⟩ := hit1
      exact Heap.lt_size z
    · obtain ⟨_, z, _⟩ := hl1
      exact Heap.lt_size z
  obtain ⟨h2, g2, d2, tk2, os2⟩ := s'
  obtain ⟨kept, sameG, sameD, sameO, later⟩ := moved
  have sameG : g2 = s.gens := sameG
  have sameD : d2 = s.drawn := sameD
  have sameO : os2 = s.os := sameO
  have later : s.toks ≤ tk2 := later
  subst sameG sameD sameO
  have rest : acc.toList = items.toList.drop 1 := by
    refine List.ext_getElem? fun j => ?_
    rw [List.getElem?_drop, Array.getElem?_toList, Array.getElem?_toList]
    cases e : acc[j]? with
    | none =>
      have : acc.size ≤ j := Array.getElem?_eq_none_iff.mp e
      rw [items'.1] at this
      exact (Array.getElem?_eq_none_iff.mpr (by omega)).symm
    | some v =>
      have := items'.2 j v e
      rw [Nat.add_comm 1 j]
      exact this.symm
  have len : acc.toList.length = n := by rw [Array.length_toList]; exact items'.1
  rw [if_neg (show ¬ acc.toList.length < 2 - 1 - 1 by omega)]
  have whole : acc.toList.take (acc.toList.length - (2 - 1 - 1)) = acc.toList := List.take_of_length_le (by omega)
  have none' : acc.toList.drop (acc.toList.length - (2 - 1 - 1)) = [] := List.drop_eq_nil_of_le (by omega)
  show wpAny _ _ (newList (acc.toList.take (acc.toList.length - (2 - 1 - 1))) >>= _) _ _ _
  rw [whole, none']
  refine wpAny_bind (wpAny_newObj_type ?_ (by show acc.toList.length ≤ sizeLine; omega))
  rw [rest]
  refine wpAny_pure ?_
  show Q [x, .ref h2.objs.size] _
  refine want h2 tk2 later fun b o e => ?_
  have nb : b ≠ it := by
    rw [← eI]
    exact Nat.ne_of_lt (Heap.lt_size e)
  exact kept b o (by simpa using nb) (same1.extBut b o nb (Heap.get?_push_of_some _ e))
end
/-- x, *y = a list -/
def tStarA (K : PySem.W.Frag) (i j : Nat) : TG := fun v σ H Q => ∃ a y ys, v = .ref a ∧ SqL K H a (y :: ys) ∧ ∀ p, H p = none → Q ((σ.set i (some y)).set j (some (.ref p))) (upd H p (.lst ys))
theorem pg_star {X : Cx} {i j : Nat} {x y : Str} {p1 p2 p3 pos : Pos} {k : Nat} (calm : X.calm = true) (nd : X.N.Nodup) (hi : X.N[i]? = some x) (hj : X.N[j]? = some y)
    (hx : X.env.scope.names.lookup x = some .local) (hy : X.env.scope.names.lookup y = some .local) : PG X (.Tuple [.Name x p1, .Starred (.Name y p2) p3] k pos) (tStarA X.K i j) := by
  refine ⟨fun pins s σ H v u Q I r ⟨a, y0, ys, e1, sq, todo⟩ => ?_⟩
  subst e1
  cases r
  obtain ⟨its, rel, pl, small⟩ := I.list sq
  cases rel with
  | cons r0 rel =>
    rename_i u0 us
    have lens : us.length = ys.length := (Paired.length rel).symm
    rw [assign_Tuple]
    refine wpAny_bind (wpAny_standAt ?_)
    unfold unpack
    show wpAny _ _ (holding [Value.ref a] (unpackItems (.ref a) 2 (some 1)) >>= fun xs => assignInOrder [assign (.Name x p1) X.env, assign (.Name y p2) X.env] xs) _ _ _
    have hz : us.length ≤ sizeLine := by
      have : (y0 :: ys).length ≤ sizeLine := small
      rw [List.length_cons] at this
      omega
    refine wpAny_bind (wpAny_holding (unpack_star (I.ok.hd calm) pl.isList rfl (n := us.length) (by simp) hz fun h' tk later kept => ?_))
    have I1 : L2.Inv X pins σ H { s with heap := h', toks := tk } := I.kept kept
    have new : H h'.objs.size = none := I1.hok.fresh (Nat.le_refl _)
    have I2 := I1.laid (t' := tk) (a := h'.objs.size) (o := .lst ys) (h' := h'.push { cls := .type "list", data := .seq us.toArray }) (fun b u q => Heap.get?_push_of_some _ q) (Nat.le_refl _)
      ⟨by omega, us, _, rel, Heap.get?_push_size _ rfl⟩
    show wpAny _ _ (assignInOrder [assign (.Name x p1) X.env, assign (.Name y p2) X.env] [u0, .ref h'.objs.size]) _ _ { s with heap := h'.push { cls := .type "list", data := .seq us.toArray }, toks := tk }
    refine assignInOrder_cons (wpAny_assign_Name
      (store_ok I2 nd hi (.inl hx) r0 (fun s2 I3 => ?_) (.inr hx)))
    refine assignInOrder_cons (wpAny_assign_Name
      (store_ok (v := .ref h'.objs.size) I3 nd hj (.inl hy) rfl (fun s3 I4 => assignInOrder_nil ?_) (.inr hy)))
    exact ⟨_, _, I4, todo _ new⟩
def gStarD (i j : Nat) : DG := fun d δ κ _ Q => ∃ y ys, view d κ = some (.lst, y :: ys) ∧ Q ((δ.set i (some y)).set j (some (.node .lst ys))) κ
theorem pg_starD {X : Cx} {W : WX} {i j : Nat} {x y : Str} {p1 p2 p3 pos : Pos} {k : Nat} (calm : X.calm = true) (nd : X.N.Nodup) (hi : X.N[i]? = some x := by rfl) (hj : X.N[j]? = some y := by rfl)
    (hx : X.env.scope.names.lookup x = some .local := by rfl) (hy : X.env.scope.names.lookup y = some .local := by rfl) : PGD X W (.Tuple [.Name x p1, .Starred (.Name y p2) p3] k pos) (gStarD i j) :=
  pg_weak (pg_star calm nd hi hj hx hy) fun v σ H Q ⟨F, ρ, κ, δ, d, XD, QD, S, R, rr, ⟨y, ys, h1, h2⟩, P, PX⟩ => by
  obtain ⟨a, vs, rfl, hk, rl⟩ := view_at S rr h1
  cases rl with
  | cons r0 rl =>
    refine ⟨a, _, _, rfl, SqL.of hk, fun p hp => ?_⟩
    obtain ⟨ex, S2⟩ := S.laid (p := p) (o := .lst _) hp
    exact P _ _ _ _ _ _ ex S2 (((R.ext ex).set (r0.ext ex) i).set (.node (k := .lst) upd_same (rl.ext ex)) j) h2
end DL

/-! DLu: zip of any lists and tuples, at the library's level. -/
namespace ZN
open PySem
section
variable {prog : Program} {w : World} {A : Around} {E : Value → Shared → Prop} {s : Shared}
/-- a loop over a list that never leaves early -/
theorem zloop {α β : Type} {M : Model} {f : α → β → Sem (ForInStep β)} {Q : β → Shared → Prop} (Pv : Nat → β → Shared → Prop) : ∀ (ps : List α) (j : Nat) (b : β) (s : Shared),
    (∀ i p b s, ps[i]? = some p → Pv (j + i) b s → wpAny M A (f p b) (fun r s' => ∃ b', r = .yield b' ∧ Pv (j + i + 1) b' s') E s) → Pv j b s → (∀ b s, Pv (j + ps.length) b s → Q b s) → wpAny M A (forIn ps b f) Q E s
  | [], j, b, s, _, h, hq => by
    rw [List.forIn_nil]
    exact wpAny_pure (hq b s h)
  | p :: ps, j, b, s, st, h, hq => by
    rw [List.forIn_cons]
    refine wpAny_bind (wpAny_mono (st 0 p b s rfl h) ?_ fun _ _ e => e)
    rintro r s' ⟨b', rfl, hp⟩
    refine zloop Pv ps (j + 1) b' s' (fun i q c t hi hc => ?_) hp fun c t hc => hq c t ?_
    · have := st (i + 1) q c t hi (by rw [show j + (i + 1) = j + 1 + i by omega]; exact hc)
      rw [show j + (i + 1) + 1 = j + 1 + i + 1 by omega] at this
      exact this
    · rw [List.length_cons, show j + (ps.length + 1) = j + 1 + ps.length by omega]
      exact hc
/-- what zip walks: an iterator, whose it is, the items -/
structure Zs where
  it : Addr
  l : Addr
  xs : Array Value
def Sq (h : Heap) (l : Addr) (xs : Array Value) : Prop := h.IsList l xs ∨ h.IsTuple l xs
def Src (h : Heap) (k : Nat) (c : Zs) : Prop := (h.IsListIter c.it c.l k ∧ h.IsList c.l c.xs) ∨ (h.IsTupleIter c.it c.l k ∧ h.IsTuple c.l c.xs)
theorem Src.ext {h h' : Heap} {b : Addr} {k : Nat} {c : Zs} (x : Src h k c) (hs : Heap.ExtBut b h h') (h1 : c.it ≠ b) (h2 : c.l ≠ b) : Src h' k c := by
  rcases x with ⟨a, d⟩ | ⟨a, d⟩
  · exact .inl ⟨a.extBut hs h1, d.extBut hs h2⟩
  · exact .inr ⟨a.extBut hs h1, d.extBut hs h2⟩
theorem Src.obj {h : Heap} {k : Nat} {c : Zs} (x : Src h k c) : ∃ o vs, h.get? c.it = some o ∧ o.data = .fields vs := by
  rcases x with ⟨⟨o, a, b, d⟩, _⟩ | ⟨⟨o, a, b, d⟩, _⟩
  · exact ⟨o, _, a, d⟩
  · exact ⟨o, _, a, d⟩
theorem Src.keep {h h' : Heap} {k : Nat} {c : Zs} (x : Src h k c) (h1 : ∀ o, h.get? c.it = some o → h'.get? c.it = some o) (h2 : ∀ o, h.get? c.l = some o → h'.get? c.l = some o) : Src h' k c := by
  rcases x with ⟨⟨o, a, b⟩, ⟨o', d, e⟩⟩ | ⟨⟨o, a, b⟩, ⟨o', d, e⟩⟩
  · exact .inl ⟨⟨o, h1 _ a, b⟩, ⟨o', h2 _ d, e⟩⟩
  · exact .inr ⟨⟨o, h1 _ a, b⟩, ⟨o', h2 _ d, e⟩⟩
theorem src_item {k : Nat} {c : Zs} {v : Value} {Q : Value → Shared → Prop} (x : Src s.heap k c) (ne : c.l ≠ c.it) (hx : c.xs[k]? = some v)
    (hQ : ∀ h', Src h' (k + 1) c → Heap.SameBut c.it s.heap h' → Q v { s with heap := h' }) : wpAny (model prog w) A (Builtin.SmallTypes.nextOf (.ref c.it)) Q E s := by
  rcases x with ⟨a, d⟩ | ⟨a, d⟩
  · exact wpAny_nextOf_list_item a d hx fun h' b sb => hQ h' (.inl ⟨b, d.extBut sb.extBut ne⟩) sb
  · exact RZ.nextOf_tuple_item a d hx fun h' b sb => hQ h' (.inr ⟨b, d.extBut sb.extBut ne⟩) sb
theorem src_end {k : Nat} {c : Zs} {Q : Value → Shared → Prop} (hh : A.handled = none) (x : Src s.heap k c) (hx : c.xs[k]? = none)
    (hE : ∀ h' e, Heap.ExtBut c.it s.heap h' → (∃ o, h'.get? e = some o ∧ o.cls = .type "StopIteration") → E (.ref e) { s with heap := h' }) : wpAny (model prog w) A (Builtin.SmallTypes.nextOf (.ref c.it)) Q E s := by
  rcases x with ⟨a, d⟩ | ⟨a, d⟩
  · exact wpAny_nextOf_list_end hh a d hx hE
  · exact RZ.nextOf_tuple_end hh a d hx hE
theorem src_new {l : Addr} {xs : Array Value} {Q : Value → Shared → Prop} (x : Sq s.heap l xs) (hQ : ∀ o : Obj, Src (s.heap.push o) 0 ⟨s.heap.objs.size, l, xs⟩ → Q (.ref s.heap.objs.size) { s with heap := s.heap.push o }) :
    wpAny (model prog w) A (pyIter (.ref l)) Q E s := by
  rcases x with a | a
  · exact wpAny_pyIter_list a (hQ _ (.inl ⟨⟨_, Heap.get?_push_size _ rfl, rfl, rfl⟩, a.push _⟩))
  · exact wpAny_pyIter_tuple a (hQ _ (.inr ⟨⟨_, Heap.get?_push_size _ rfl, rfl, rfl⟩, a.push _⟩))
/-- the things of one zip lie apart -/
structure Apart (z TI TO : Addr) (cs : List Zs) : Prop where
  tz : TI ≠ z
  oz : TO ≠ z
  to : TI ≠ TO
  i : ∀ c ∈ cs, c.it ≠ z ∧ c.it ≠ TI ∧ c.it ≠ TO
  nd : ∀ (i j : Nat) (c d : Zs), cs[i]? = some c → cs[j]? = some d → i ≠ j → c.it ≠ d.it
  l : ∀ c ∈ cs, c.l ≠ z ∧ c.l ≠ TO ∧ ∀ d ∈ cs, c.l ≠ d.it
abbrev IsT (h : Heap) (T : Addr) (vs : List Value) : Prop := h.get? T = some { cls := .type "tuple", data := .seq vs.toArray }
def refsOf (cs : List Zs) : List Value := cs.map fun c => .ref c.it
/-- all but what a zip writes stays -/
def Stays (z TO : Addr) (cs : List Zs) (h h' : Heap) : Prop := ∀ a o, a ≠ z → a ≠ TO → (∀ c ∈ cs, a ≠ c.it) → h.get? a = some o → h'.get? a = some o
theorem upd_same {xs : List Value} {j : Nat} {v : Value} {i : Nat} : (xs.set j v)[i]? = if i = j ∧ j < xs.length then some v else xs[i]? := by
  rw [List.getElem?_set]
  by_cases h : j = i
  · subst h
    by_cases h2 : j < xs.length
    · simp [h2]
    · simp [h2]
  · rw [if_neg h, if_neg fun q => h q.1.symm]
theorem zs_next {z TI TO : Addr} {cs : List Zs} {k : Nat} {ts : List Value} {Q : Value → Shared → Prop} (hh : A.handled = none) (D : Apart z TI TO cs) (hne : cs ≠ []) (hn : cs.length ≤ 100) (hz : IsZip s.heap z TI TO .none) (hTI : IsT s.heap TI (refsOf cs)) (hTO : IsT s.heap TO ts) (htl : ts.length = cs.length) (hs : ∀ c ∈ cs, Src s.heap k c)
    (hQ : ∀ (vs : List Value) h', vs.length = cs.length → (∀ (i : Nat) (c : Zs), cs[i]? = some c → c.xs[k]? = vs[i]?) → IsZip h' z TI TO (rawInt s.heap.objs.size) → IsT h' TO vs → (∀ c ∈ cs, Src h' (k + 1) c) → IsT h' s.heap.objs.size vs →
      Stays z TO cs s.heap h' → Q (.ref s.heap.objs.size) { s with heap := h' })
    (hE : ∀ c ∈ cs, c.xs[k]? = none → ∀ h' e, Stays z TO cs s.heap h' → (∃ o, h'.get? e = some o ∧ o.cls = .type "StopIteration") → E (.ref e) { s with heap := h' }) :
    wpAny (model prog w) A (Builtin.«zip.__next__» ⟨[.ref z], []⟩) (fun fin s' => ∃ v, fin = .done (.ret v) ∧ Q v s') E s := by
  show wpAny _ _ (field (.ref z) 2 >>= _) _ _ _
  refine wpAny_bind (wpAny_field hz rfl (x := .bool false) rfl ?_)
  show wpAny _ _ (field (.ref z) 3 >>= _) _ _ _
  refine wpAny_bind (wpAny_field hz rfl (x := .ref TI) rfl ?_)
  refine wpAny_bind (wpAny_seqItems hTI rfl ?_)
  have he : ((refsOf cs).toArray.isEmpty = true) = False := by
    cases cs with
    | nil => exact absurd rfl hne
    | cons c cs => simp [refsOf]
  dsimp only
  rw [if_neg (by rw [he]; exact id)]
  show wpAny _ _ (Builtin.SmallTypes.ownedTupleIsFree (.ref z) >>= _) _ _ _
  refine wpAny_bind ?_
  unfold Builtin.SmallTypes.ownedTupleIsFree
  refine wpAny_bind (wpAny_field hz rfl (x := .none) rfl (wpAny_pure ?_))
  rw [if_pos rfl]
  refine wpAny_bind (wpAny_rule ?_)
  refine wpAny_bind (wpAny_field hz rfl (x := .ref TO) rfl ?_)
  refine wpAny_bind (wpAny_setField_rec hz (by simp) fun g1 z1 k1 => ?_)
  replace z1 : IsZip g1 z TI TO .ellipsis := z1
  refine wpAny_bind (zloop (fun j b s' => b.1 = none ∧ ∃ (h' : Heap) (kept : List Value), s' = { s with heap := h' } ∧ h'.objs.size = s.heap.objs.size ∧ IsZip h' z TI TO .ellipsis ∧ IsT h' TO kept ∧ kept.length = cs.length ∧
    (∀ (i : Nat) (c : Zs), i < j → cs[i]? = some c → c.xs[k]? = kept[i]?) ∧ (∀ (i : Nat) (c : Zs), cs[i]? = some c → Src h' (if i < j then k + 1 else k) c) ∧ Stays z TO cs s.heap h') _ 0 _ _ ?step ?start ?done)
  case start =>
    refine ⟨rfl, g1, ts, rfl, k1.1, z1, k1.extBut _ _ D.oz hTO, htl, fun i c h => absurd h (by omega), fun i c hc => ?_, fun a o h1 _ _ e => k1.extBut _ _ h1 e⟩
    have hm := List.mem_of_getElem? hc
    exact (hs c hm).ext k1.extBut (D.i c hm).1 (D.l c hm).1
  case step =>
    rintro i ⟨it, j⟩ b s' hp ⟨hb1, h', kept, rfl, hsz, hz', hTO', hl, hv, hsr, hst⟩
    rw [Nat.zero_add] at hv hsr
    rw [List.getElem?_zipIdx, Option.map_eq_some_iff] at hp
    obtain ⟨v0, hv0, hp⟩ := hp
    rw [Nat.zero_add, Prod.mk.injEq] at hp
    obtain ⟨rfl, rfl⟩ := hp
    have hv0' : (refsOf cs)[i]? = some v0 := hv0
    unfold refsOf at hv0'
    rw [List.getElem?_map, Option.map_eq_some_iff] at hv0'
    obtain ⟨c, hc, rfl⟩ := hv0'
    have hm := List.mem_of_getElem? hc
    have hsc := hsr i c hc
    rw [if_neg (Nat.lt_irrefl i)] at hsc
    refine wpAny_bind (wpAny_onRaise ?_)
    show wpAny _ _ (Builtin.SmallTypes.nextOf (.ref c.it) >>= _) _ _ _
    cases hx : c.xs[k]? with
    | none =>
      refine wpAny_bind (src_end (s := { s with heap := h' }) hh hsc hx fun h2 e k2 he2 => ?_)
      obtain ⟨oe, hoe, hce⟩ := he2
      have z2 : IsZip h2 z TI TO .ellipsis := k2 _ _ (D.i c hm).1.symm hz'
      have hez : e ≠ z := fun q => by
        rw [q, z2] at hoe
        cases hoe
        simp at hce
      refine wpAny_setField_rec (s := { s with heap := h2 }) z2 (by simp) fun h3 _ k3 => ?_
      exact hE c hm hx h3 e (fun a o a1 a2 a3 q => k3.extBut _ _ a1 (k2 _ _ (a3 c hm) (hst a o a1 a2 a3 q))) ⟨oe, k3.extBut _ _ hez hoe, hce⟩
    | some v =>
      refine wpAny_bind (src_item (s := { s with heap := h' }) hsc ((D.l c hm).2.2 c hm) hx fun h2 sc2 k2 => wpAny_pure ?_)
      have hTO2 : IsT h2 TO kept := k2.extBut _ _ (D.i c hm).2.2.symm hTO'
      refine wpAny_bind (wpAny_seqItems (s := { s with heap := h2 }) hTO2 rfl ?_)
      have hkz : kept.toArray.size ≤ sizeLine := by
        rw [List.size_toArray, hl, sizeLine_eq]
        omega
      refine wpAny_bind (wpAny_updateSeq (s := { s with heap := h2 }) hTO2 rfl ?_ hkz (by rw [Array.size_setIfInBounds]; omega))
      refine wpAny_bind (wpAny_letGo (wpAny_pure ⟨_, rfl, by first | exact hb1 | rfl, ?_⟩))
      have k3 := Heap.SameBut.update h2 TO (Obj.mapSeq fun x => x.setIfInBounds i v)
      have hTO3 : IsT (h2.update TO (Obj.mapSeq fun x => x.setIfInBounds i v)) TO (kept.set i v) := by
        refine (Heap.get?_update_self _ hTO2 rfl).trans ?_
        simp [Obj.mapSeq]
      have hil : i < kept.length := by
        rw [hl]
        exact (List.getElem?_eq_some_iff.mp hc).1
      refine ⟨_, kept.set i v, rfl, k3.1.trans (k2.1.trans hsz), k3.extBut _ _ D.oz.symm (k2.extBut _ _ (D.i c hm).1.symm hz'), hTO3, by rw [List.length_set]; exact hl, fun i2 c2 h2' hc2 => ?_, fun i2 c2 hc2 => ?_, fun a o a1 a2 a3 q => k3.extBut _ _ a2 (k2.extBut _ _ (a3 c hm) (hst a o a1 a2 a3 q))⟩
      · rw [Nat.zero_add] at h2'
        rw [upd_same]
        by_cases e : i2 = i
        · subst e
          rw [if_pos ⟨rfl, hil⟩]
          rw [hc] at hc2
          cases hc2
          exact hx
        · rw [if_neg fun q => e q.1]
          exact hv i2 c2 (by omega) hc2
      · rw [Nat.zero_add]
        have hm2 := List.mem_of_getElem? hc2
        by_cases e : i2 = i
        · subst e
          rw [hc] at hc2
          cases hc2
          rw [if_pos (by omega)]
          exact sc2.ext k3.extBut (D.i c hm).2.2 (D.l c hm).2.1
        · have q := hsr i2 c2 hc2
          have q2 : (if i2 < i + 1 then k + 1 else k) = if i2 < i then k + 1 else k := by
            by_cases r : i2 < i
            · rw [if_pos r, if_pos (by omega)]
            · rw [if_neg r, if_neg (by omega)]
          rw [q2]
          exact (q.ext k2.extBut (D.nd i2 i c2 c hc2 hc e) ((D.l c2 hm2).2.2 c hm)).ext k3.extBut (D.i c2 hm2).2.2 (D.l c2 hm2).2.1
  case done =>
    rintro b s' ⟨hb1, h', kept, rfl, hsz, hz', hTO', hl, hv, hsr, hst⟩
    have hpl : (refsOf cs).toArray.toList.zipIdx.length = cs.length := by simp [refsOf]
    rw [hpl, Nat.zero_add] at hv hsr
    have hi2 : ∀ (i : Nat) (c : Zs), cs[i]? = some c → i < cs.length := fun i c hc => (List.getElem?_eq_some_iff.mp hc).1
    have hz100 : kept.length ≤ sizeLine := by
      rw [hl, sizeLine_eq]
      omega
    rw [hb1]
    refine wpAny_bind (wpAny_seqItems (s := { s with heap := h' }) hTO' rfl ?_)
    refine wpAny_bind (wpAny_newTuple (s := { s with heap := h' }) ?_ hz100)
    show wpAny _ _ (Builtin.SmallTypes.ownedTupleHandOut (.ref z) (.ref h'.objs.size) >>= _) _ _ _
    refine wpAny_bind ?_
    unfold Builtin.SmallTypes.ownedTupleHandOut
    have hzl : z < h'.objs.size := Heap.lt_size hz'
    have hz6 : IsZip (h'.push { cls := .type "tuple", data := .seq kept.toArray }) z TI TO .ellipsis := Heap.get?_push_of_some _ hz'
    refine wpAny_bind (wpAny_setField_rec (s := { s with heap := h'.push { cls := .type "tuple", data := .seq kept.toArray } }) hz6 (by simp) fun h7 hz7 k7 => ?_)
    replace hz7 : IsZip h7 z TI TO (rawInt h'.objs.size) := hz7
    refine wpAny_setField_rec (s := { s with heap := h7 }) hz7 (by simp) fun h8 hz8 k8 => ?_
    replace hz8 : IsZip h8 z TI TO (rawInt h'.objs.size) := hz8
    have up : ∀ a o, a ≠ z → h'.get? a = some o → h8.get? a = some o := fun a o a1 q => k8.extBut _ _ a1 (k7.extBut _ _ a1 (Heap.get?_push_of_some _ q))
    have new : IsT h8 h'.objs.size kept := k8.extBut _ _ (Nat.ne_of_gt hzl) (k7.extBut _ _ (Nat.ne_of_gt hzl) (Heap.get?_push_size _ rfl))
    refine wpAny_pure ⟨_, rfl, ?_⟩
    show Q (.ref h'.objs.size) _
    rw [hsz] at new hz8 ⊢
    refine hQ kept h8 hl (fun i c hc => hv i c (hi2 i c hc) hc) hz8 (up _ _ D.oz hTO') (fun c hc => ?_) new fun a o a1 a2 a3 q => up a o a1 (hst a o a1 a2 a3 q)
    obtain ⟨i, hi⟩ := List.mem_iff_getElem?.mp hc
    have q := hsr i c hi
    rw [if_pos (hi2 i c hi)] at q
    exact q.keep (fun o => up _ o (D.i c hc).1) fun o => up _ o (D.l c hc).1
/-- one turn of a loop over a zip -/
theorem pyNext_zs {z TI TO : Addr} {cs : List Zs} {k : Nat} {ts : List Value} {Q : Option Value → Shared → Prop} (hh : A.handled = none) (D : Apart z TI TO cs) (hne : cs ≠ []) (hn : cs.length ≤ 100) (hz : IsZip s.heap z TI TO .none) (hTI : IsT s.heap TI (refsOf cs)) (hTO : IsT s.heap TO ts) (htl : ts.length = cs.length) (hs : ∀ c ∈ cs, Src s.heap k c)
    (hQ : ∀ (vs : List Value) h', vs.length = cs.length → (∀ (i : Nat) (c : Zs), cs[i]? = some c → c.xs[k]? = vs[i]?) → IsZip h' z TI TO (rawInt s.heap.objs.size) → IsT h' TO vs → (∀ c ∈ cs, Src h' (k + 1) c) → IsT h' s.heap.objs.size vs →
      Stays z TO cs s.heap h' → Q (some (.ref s.heap.objs.size)) { s with heap := h' })
    (hE : ∀ c ∈ cs, c.xs[k]? = none → ∀ h', Stays z TO cs s.heap h' → Q none { s with heap := h' }) : wpAny (model prog w) A (pyNext (.ref z)) Q E s := by
  have hT : s.TypeIs (.ref z) "zip" := ⟨_, hz, rfl⟩
  unfold pyNext
  refine wpAny_bind (wpAny_attempt (wpAny_callSpecial?_slot (name := Str.ofString "__next__") hT F.slot_zip_next
    (wpAny_call_entry F.slot_zip_next hT F.entry_zip_next (zs_next hh D hne hn hz hTI hTO htl hs (fun vs h' a1 a2 a3 a4 a5 a6 a7 => wpAny_pure (hQ vs h' a1 a2 a3 a4 a5 a6 a7)) fun c hc hx h' e st he => ?_) (F.args_zip_next_1 _))))
  obtain ⟨o, ho, hcl⟩ := he
  refine wpAny_bind (wpAny_isInstance (T := "StopIteration") (b := true) ⟨o, ho, hcl⟩ isSubtype_stop ?_)
  exact wpAny_pure (hE c hc hx _ st)
/-! ### a zip is made -/
def made (h : Heap) : List (Addr × Array Value) → Nat → List Zs
  | [], _ => []
  | (l, xs) :: r, n => ⟨n, l, xs⟩ :: made h r (n + 1)
theorem made_get {h : Heap} : ∀ {ls : List (Addr × Array Value)} {n i : Nat} {c : Zs}, (made h ls n)[i]? = some c → c.it = n + i ∧ ∃ q, ls[i]? = some q ∧ c.l = q.1 ∧ c.xs = q.2
  | [], _, _, _, q => by simp [made] at q
  | (l, xs) :: r, n, 0, c, q => by
    have e : (⟨n, l, xs⟩ : Zs) = c := Option.some.inj q
    subst e
    exact ⟨rfl, _, rfl, rfl, rfl⟩
  | (l, xs) :: r, n, i + 1, c, q => by
    obtain ⟨a, b⟩ := made_get (ls := r) (n := n + 1) (i := i) q
    exact ⟨a.trans (Nat.add_right_comm n 1 i), b⟩
theorem made_len {h : Heap} : ∀ (ls : List (Addr × Array Value)) (n : Nat), (made h ls n).length = ls.length
  | [], _ => rfl
  | (l, xs) :: r, n => by
    show (made h r (n + 1)).length + 1 = r.length + 1
    rw [made_len r (n + 1)]
theorem iterAll_zs {ls : List (Addr × Array Value)} {Q : List Value → Shared → Prop} (hl : ∀ q ∈ ls, Sq s.heap q.1 q.2)
    (hQ : ∀ h', h'.objs.size = s.heap.objs.size + ls.length → (∀ a o, s.heap.get? a = some o → h'.get? a = some o) → (∀ c ∈ made s.heap ls s.heap.objs.size, Src h' 0 c) → Q (refsOf (made s.heap ls s.heap.objs.size)) { s with heap := h' }) :
    wpAny (model prog w) A (Builtin.SmallTypes.iterAll (ls.map fun q => .ref q.1)) Q E s := by
  unfold Builtin.SmallTypes.iterAll
  refine wpAny_bind (zloop (fun j (b : Array Value) s' => ∃ h' : Heap, s' = { s with heap := h' } ∧ h'.objs.size = s.heap.objs.size + j ∧ (∀ a o, s.heap.get? a = some o → h'.get? a = some o) ∧
    b.toList = (refsOf (made s.heap ls s.heap.objs.size)).take j ∧ ∀ i c, i < j → (made s.heap ls s.heap.objs.size)[i]? = some c → Src h' 0 c) _ 0 _ _ ?step ?start ?done)
  case start => exact ⟨s.heap, rfl, rfl, fun _ _ q => q, by simp, fun i c q => absurd q (by omega)⟩
  case step =>
    rintro i p b s' hp ⟨h', rfl, hsz, hk, hb, hs⟩
    rw [Nat.zero_add] at hsz hb hs
    rw [List.getElem?_map, Option.map_eq_some_iff] at hp
    obtain ⟨⟨l, xs⟩, hq, rfl⟩ := hp
    have hil : i < ls.length := (List.getElem?_eq_some_iff.mp hq).1
    have hmi : (made s.heap ls s.heap.objs.size)[i]? = some ⟨s.heap.objs.size + i, l, xs⟩ := by
      have hx : i < (made s.heap ls s.heap.objs.size).length := by rw [made_len]; exact hil
      have e := List.getElem?_eq_getElem hx
      obtain ⟨a1, q, a2, a3, a4⟩ := made_get e
      rw [hq] at a2
      cases a2
      rw [e]
      generalize (made s.heap ls s.heap.objs.size)[i] = c at a1 a3 a4
      obtain ⟨c1, c2, c3⟩ := c
      dsimp only at a1 a3 a4
      rw [a1, a3, a4]
    have sq : Sq h' l xs := by
      rcases hl _ (List.mem_of_getElem? hq) with ⟨o, a, b⟩ | ⟨o, a, b⟩
      · exact .inl ⟨o, hk _ _ a, b⟩
      · exact .inr ⟨o, hk _ _ a, b⟩
    refine wpAny_bind (wpAny_holding (src_new (s := { s with heap := h' }) sq fun o sr => wpAny_pure ?_))
    refine ⟨_, rfl, _, rfl, by rw [Heap.size_push, hsz]; omega, fun a o' q => Heap.get?_push_of_some _ (hk a o' q), ?_, fun i2 c h2 hc => ?_⟩
    · rw [Array.toList_push, hb, Nat.zero_add, List.take_add_one]
      congr 1
      unfold refsOf
      rw [List.getElem?_map, hmi]
      show _ = [Value.ref (s.heap.objs.size + i)]
      rw [hsz]
    · rw [Nat.zero_add] at h2
      by_cases e : i2 = i
      · subst e
        rw [hmi] at hc
        cases hc
        have hs2 : (Shared.heap { s with heap := h' }).objs.size = s.heap.objs.size + i2 := hsz
        rw [hs2] at sr
        exact sr
      · exact (hs i2 c (by omega) hc).keep (fun o q => Heap.get?_push_of_some _ q) fun o q => Heap.get?_push_of_some _ q
  case done =>
    rintro b s' ⟨h', rfl, hsz, hk, hb, hs⟩
    rw [List.length_map, Nat.zero_add] at hsz hb hs
    have hbl : b.toList = refsOf (made s.heap ls s.heap.objs.size) := by
      rw [hb]
      refine List.take_of_length_le ?_
      unfold refsOf
      rw [List.length_map, made_len]
      exact Nat.le_refl _
    show wpAny _ _ (pure b.toList) _ _ _
    rw [hbl]
    refine wpAny_pure (hQ h' hsz hk fun c hc => ?_)
    obtain ⟨i, hi⟩ := List.mem_iff_getElem?.mp hc
    refine hs i c ?_ hi
    have := (List.getElem?_eq_some_iff.mp hi).1
    rw [made_len] at this
    exact this
theorem zip_new {ls : List (Addr × Array Value)} (hn : ls.length ≤ 100) : Meets (Builtin.«zip.__new__» ⟨.type "zip" :: ls.map (fun q => .ref q.1), []⟩) (fun _ R s => (∀ q ∈ ls, Sq s.heap q.1 q.2) ∧
    ∀ (h' : Heap) (cs : List Zs), cs = made s.heap ls s.heap.objs.size → IsZip h' (s.heap.objs.size + ls.length + 2) (s.heap.objs.size + ls.length) (s.heap.objs.size + ls.length + 1) .none → IsT h' (s.heap.objs.size + ls.length) (refsOf cs) →
      IsT h' (s.heap.objs.size + ls.length + 1) (cs.map fun _ => .none) → (∀ c ∈ cs, Src h' 0 c) → (∀ a o, s.heap.get? a = some o → h'.get? a = some o) → R (.ok (.ret (.ref (s.heap.objs.size + ls.length + 2)))) { s with heap := h' }) :=
  .of_wp fun prog w A R s h => by
    obtain ⟨hl, h⟩ := h
    show wpAny _ _ (Builtin.SmallTypes.newClass "zip" _ >>= _) _ _ s
    refine wpAny_bind ?_
    unfold Builtin.SmallTypes.newClass
    dsimp only
    refine wpAny_bind (wpAny_of_eq (a := true) (by first | rfl | (simp only [isType]; rfl)) ?_)
    show wpAny _ _ (isSubtype (.type "zip") (.type "zip") >>= _) _ _ s
    refine wpAny_bind (wpAny_of_eq sub_zip ?_)
    refine wpAny_pure ?_
    show wpAny _ _ (Builtin.SmallTypes.iterAll (ls.map fun q => Value.ref q.1) >>= _) _ _ s
    refine wpAny_bind (iterAll_zs hl fun h1 z1 k1 s1 => ?_)
    have hm : (made s.heap ls s.heap.objs.size).length ≤ sizeLine := by
      rw [made_len, sizeLine_eq]
      omega
    refine wpAny_bind (wpAny_newTuple (s := { s with heap := h1 }) ?_ (by unfold refsOf; rw [List.length_map]; exact hm))
    refine wpAny_bind (wpAny_newTuple ?_ (by unfold refsOf; rw [List.length_map, List.length_map]; exact hm))
    have hA : s.heap.objs.size + ls.length = h1.objs.size := z1.symm
    rw [hA] at h
    have hB : (h1.push { cls := .type "tuple", data := .seq (refsOf (made s.heap ls s.heap.objs.size)).toArray }).objs.size = h1.objs.size + 1 := Heap.size_push ..
    have hC : ((h1.push { cls := .type "tuple", data := .seq (refsOf (made s.heap ls s.heap.objs.size)).toArray }).push { cls := .type "tuple", data := .seq ((refsOf (made s.heap ls s.heap.objs.size)).map fun _ => Value.none).toArray }).objs.size = h1.objs.size + 2 := by
      rw [Heap.size_push, hB]
    refine wpAny_bind ?_
    unfold Builtin.SmallTypes.newRecord
    refine wpAny_newObj_type ?_ (by show _ ≤ sizeLine + 2; rw [sizeLine_eq]; simp [Builtin.SmallTypes.ownedTupleFields])
    refine wpAny_pure ⟨_, rfl, ?_⟩
    dsimp only
    rw [hC, hB]
    have g1 := Heap.get?_push_size h1 (o := ({ cls := .type "tuple", data := .seq (refsOf (made s.heap ls s.heap.objs.size)).toArray } : Obj)) rfl
    have g2 := Heap.get?_push_size (h1.push { cls := .type "tuple", data := .seq (refsOf (made s.heap ls s.heap.objs.size)).toArray }) (o := ({ cls := .type "tuple", data := .seq ((refsOf (made s.heap ls s.heap.objs.size)).map fun _ => Value.none).toArray } : Obj)) rfl
    have g3 := Heap.get?_push_size ((h1.push { cls := .type "tuple", data := .seq (refsOf (made s.heap ls s.heap.objs.size)).toArray }).push { cls := .type "tuple", data := .seq ((refsOf (made s.heap ls s.heap.objs.size)).map fun _ => Value.none).toArray })
      (o := ({ cls := .type "zip", data := .fields (Builtin.SmallTypes.ownedTupleFields ++ [Value.bool false, Value.ref h1.objs.size, Value.ref (h1.objs.size + 1)]).toArray } : Obj)) rfl
    rw [hB] at g2
    rw [hC] at g3
    have up : ∀ (o1 o2 o3 : Obj) a o, h1.get? a = some o → (((h1.push o1).push o2).push o3).get? a = some o := fun _ _ _ a o q => Heap.get?_push_of_some _ (Heap.get?_push_of_some _ (Heap.get?_push_of_some _ q))
    refine h _ _ rfl g3 (Heap.get?_push_of_some _ (Heap.get?_push_of_some _ g1)) ?_ (fun c hc => (s1 c hc).keep (fun o => up _ _ _ _ o) fun o => up _ _ _ _ o) fun a o q => up _ _ _ _ o (k1 a o q)
    have g4 := Heap.get?_push_of_some ({ cls := .type "zip", data := .fields (Builtin.SmallTypes.ownedTupleFields ++ [Value.bool false, Value.ref h1.objs.size, Value.ref (h1.objs.size + 1)]).toArray } : Obj) g2
    refine g4.trans ?_
    unfold refsOf
    rw [List.map_map]
    rfl
/-- what the table asks of the call: of two, of three -/
structure Few (us : List Value) : Prop where
  t : checkTypeCall "zip" ⟨us, []⟩ = pure ()
  n : checkBuiltinCall "zip.__new__" ⟨.type "zip" :: us, []⟩ = pure ()
  i : ∀ obj, argsOk "object.__init__" ⟨obj :: us, []⟩
theorem few2 (a b : Value) : Few [a, b] := ⟨F.typeCall_zip_2 a b, F.newCall_zip_2 a b, fun o => F.args_object_init_3 o a b⟩
theorem few3 (a b c : Value) : Few [a, b, c] where
  t := by kernel_rfl
  n := by kernel_rfl
  i := fun obj => by
    unfold argsOk
    rw [signature?_of (id := "object.__init__") (n := ['_', '_', 't', 'i', 'n', 'i', '_', '_']) (o := ['t', 'c', 'e', 'j', 'b', 'o']) (by kernel_rfl) F.owner_object]
    kernel_rfl
theorem call_zs {ls : List (Addr × Array Value)} {Q : Value → Shared → Prop} (hf : Few (ls.map fun q => .ref q.1)) (hn : ls.length ≤ 100) (hl : ∀ q ∈ ls, Sq s.heap q.1 q.2)
    (h : ∀ (h' : Heap) (cs : List Zs), cs = made s.heap ls s.heap.objs.size → IsZip h' (s.heap.objs.size + ls.length + 2) (s.heap.objs.size + ls.length) (s.heap.objs.size + ls.length + 1) .none → IsT h' (s.heap.objs.size + ls.length) (refsOf cs) →
      IsT h' (s.heap.objs.size + ls.length + 1) (cs.map fun _ => .none) → (∀ c ∈ cs, Src h' 0 c) → (∀ a o, s.heap.get? a = some o → h'.get? a = some o) → Q (.ref (s.heap.objs.size + ls.length + 2)) { s with heap := h' }) :
    wpAny (model prog w) A (call (.type "zip") (ls.map fun q => .ref q.1)) Q E s := by
  refine callType_new F.called_zip (by decide) hf.t hf.n hf.i F.entry_zip_new (zip_new hn) ⟨hl, fun h' cs e hz hTI hTO hs hk => ?_⟩
  exact ⟨⟨_, hz, rfl⟩, h h' cs e hz hTI hTO hs hk⟩
theorem made_apart {h : Heap} {ls : List (Addr × Array Value)} (hl : ∀ q ∈ ls, q.1 < h.objs.size) : Apart (h.objs.size + ls.length + 2) (h.objs.size + ls.length) (h.objs.size + ls.length + 1) (made h ls h.objs.size) := by
  have at_ : ∀ c ∈ made h ls h.objs.size, ∃ i, i < ls.length ∧ c.it = h.objs.size + i ∧ c.l < h.objs.size := fun c hc => by
    obtain ⟨i, hi⟩ := List.mem_iff_getElem?.mp hc
    obtain ⟨a, q, b, d, _⟩ := made_get hi
    refine ⟨i, (List.getElem?_eq_some_iff.mp b).1, a, ?_⟩
    rw [d]
    exact hl _ (List.mem_of_getElem? b)
  have key : ∀ {a b : Nat}, a < b → a ≠ b := fun h => Nat.ne_of_lt h
  refine ⟨Nat.ne_of_lt (by show h.objs.size + ls.length < _; omega), Nat.ne_of_lt (by show h.objs.size + ls.length + 1 < _; omega), Nat.ne_of_lt (by show h.objs.size + ls.length < _; omega), fun c hc => ?_, fun i j c d hc hd e => ?_, fun c hc => ?_⟩
  · obtain ⟨i, hi, e, _⟩ := at_ c hc
    rw [e]
    exact ⟨Nat.ne_of_lt (by show h.objs.size + i < _; omega), Nat.ne_of_lt (by show h.objs.size + i < _; omega), Nat.ne_of_lt (by show h.objs.size + i < _; omega)⟩
  · rw [(made_get hc).1, (made_get hd).1]
    intro q
    exact e (Nat.add_left_cancel q)
  · obtain ⟨i, hi, e, hlt⟩ := at_ c hc
    refine ⟨Nat.ne_of_lt (Nat.lt_of_lt_of_le hlt (by show _ ≤ h.objs.size + ls.length + 2; omega)), Nat.ne_of_lt (Nat.lt_of_lt_of_le hlt (by show _ ≤ h.objs.size + ls.length + 1; omega)), fun d hd => ?_⟩
    obtain ⟨j, hj, e2, _⟩ := at_ d hd
    rw [e2]
    exact Nat.ne_of_lt (Nat.lt_of_lt_of_le hlt (Nat.le_add_right _ _))
end
end ZN

/-! DLv: zip in loops and comprehensions. -/
namespace ZN
open PySem PySem.Spec PyProof.Rows L2
def SqK (K : PySem.W.Frag) (H : Hp) (b : Bool) (a : Addr) (xs : List V) : Prop := match b with
  | true => SqL K H a xs
  | false => SqT K H a xs
def SrcI (h : Heap) (i : Nat) (b : Bool) (it l : Addr) : Prop := match b with
  | true => h.IsListIter it l i
  | false => h.IsTupleIter it l i
def Shp (b : Bool) (h : Heap) (a : Addr) (xs : Array Value) : Prop := match b with
  | true => h.IsList a xs
  | false => h.IsTuple a xs
theorem paired_of {α β : Type} {R : α → β → Prop} : ∀ {xs : List α} {us : List β}, xs.length = us.length → (∀ (j : Nat) (x : α) (u : β), xs[j]? = some x → us[j]? = some u → R x u) → Paired R xs us
  | [], [], _, _ => .nil
  | [], _ :: _, h, _ => by simp at h
  | _ :: _, [], h, _ => by simp at h
  | x :: xs, u :: us, h, p => .cons (p 0 x u rfl rfl) (paired_of (by simpa using h) fun j y v h1 h2 => p (j + 1) y v h1 h2)
theorem list_of {α : Type} {P : Nat → α → Prop} : ∀ n : Nat, (∀ j, j < n → ∃ a, P j a) → ∃ l : List α, l.length = n ∧ ∀ (j : Nat) (a : α), l[j]? = some a → P j a
  | 0, _ => ⟨[], rfl, fun j a h => by simp at h⟩
  | n + 1, h => by
    obtain ⟨l, hl, p⟩ := list_of n fun j hj => h j (by omega)
    obtain ⟨a, ha⟩ := h n (by omega)
    refine ⟨l ++ [a], by simp [hl], fun j b hb => ?_⟩
    by_cases e : j < n
    · rw [List.getElem?_append_left (by omega)] at hb
      exact p j b hb
    · rw [List.getElem?_append_right (by omega), hl] at hb
      have e2 : j - n = 0 := by
        cases hjn : j - n with
        | zero => rfl
        | succ k => rw [hjn] at hb; simp at hb
      rw [e2] at hb
      cases hb
      rw [show j = n by omega]
      exact ha
/-- the lists and tuples as they stand at each turn, their items in a new tuple -/
def ItzN (K : PySem.W.Frag) (ks : List (Bool × Addr)) : It :=
  ⟨fun i H => ∀ (j : Nat) (q : Bool × Addr), ks[j]? = some q → ∃ xs x, SqK K H q.1 q.2 xs ∧ xs[i]? = some x,
    fun i H v H' => ∃ T vs, v = .ref T ∧ H T = none ∧ H' = upd H T (.tup vs) ∧ vs.length = ks.length ∧ ∀ (j : Nat) (q : Bool × Addr) (xs : List V), ks[j]? = some q → SqK K H q.1 q.2 xs → ∃ x, xs[i]? = some x ∧ vs[j]? = some x,
    fun i H => (∀ (j : Nat) (q : Bool × Addr), ks[j]? = some q → ∃ xs, SqK K H q.1 q.2 xs) ∧ ∃ (j : Nat) (q : Bool × Addr) (xs : List V), ks[j]? = some q ∧ SqK K H q.1 q.2 xs ∧ xs.length ≤ i⟩
section
variable {X : Cx} {pins : List (Addr × Obj)} {σ : L2.St} {H : Hp} {s : Shared}
theorem seq_at {b : Bool} {a : Addr} {xs : List V} (I : Inv X pins σ H s) (h : SqK X.K H b a xs) : ∃ its : List Value, Vals xs its ∧ Shp b s.heap a its.toArray := by
  cases b with
  | true =>
    obtain ⟨its, rv, p, _⟩ := I.list h
    exact ⟨its, rv, p.isList⟩
  | false =>
    obtain ⟨its, rv, p, _⟩ := I.tuple h
    exact ⟨its, rv, p⟩
theorem seq_inj {b : Bool} {a : Addr} {xs ys : List V} (I : Inv X pins σ H s) (h : SqK X.K H b a xs) (h' : SqK X.K H b a ys) : xs = ys := by
  cases b with
  | true => exact I.list_inj h h'
  | false => exact I.tuple_inj h h'
/-- the sources as they stand now -/
theorem srcs_at {ks : List (Bool × Addr)} {its : List Addr} {k : Nat} (I : Inv X pins σ H s) (hl : its.length = ks.length) (hi : ∀ (j : Nat) (q : Bool × Addr) (it : Addr), ks[j]? = some q → its[j]? = some it → SrcI s.heap k q.1 it q.2)
    (hq : ∀ (j : Nat) (q : Bool × Addr), ks[j]? = some q → ∃ xs, SqK X.K H q.1 q.2 xs) :
    ∃ cs : List Zs, cs.length = ks.length ∧ ∀ (j : Nat) (c : Zs), cs[j]? = some c → ∃ q xs us, ks[j]? = some q ∧ its[j]? = some c.it ∧ c.l = q.2 ∧ SqK X.K H q.1 q.2 xs ∧ Vals xs us ∧ c.xs = us.toArray ∧ Src s.heap k c := by
  refine list_of ks.length fun j hj => ?_
  have e1 := List.getElem?_eq_getElem hj
  have e2 := List.getElem?_eq_getElem (show j < its.length by omega)
  generalize ks[j] = q at e1
  generalize its[j]'(show j < its.length by omega) = it at e2
  obtain ⟨xs, hx⟩ := hq j q e1
  obtain ⟨us, rv, hs⟩ := seq_at I hx
  have hsi := hi j q it e1 e2
  obtain ⟨b, a⟩ := q
  refine ⟨⟨it, a, us.toArray⟩, (b, a), xs, us, e1, e2, rfl, hx, rv, rfl, ?_⟩
  cases b with
  | true => exact .inl ⟨hsi, hs⟩
  | false => exact .inr ⟨hsi, hs⟩
theorem refs_of {cs : List Zs} {its : List Addr} (hl : cs.length = its.length) (h : ∀ (j : Nat) (c : Zs), cs[j]? = some c → its[j]? = some c.it) : refsOf cs = its.map Value.ref := by
  unfold refsOf
  refine List.ext_getElem? fun j => ?_
  rw [List.getElem?_map, List.getElem?_map]
  cases hc : cs[j]? with
  | none =>
    rw [List.getElem?_eq_none_iff] at hc
    rw [List.getElem?_eq_none_iff.mpr (by omega)]
    rfl
  | some c =>
    rw [h j c hc]
    rfl
/-- where a zip's own things lie -/
structure Ap (z TI TO : Addr) (its : List Addr) (ks : List (Bool × Addr)) : Prop where
  tz : TI ≠ z
  oz : TO ≠ z
  to : TI ≠ TO
  i : ∀ a ∈ its, a ≠ z ∧ a ≠ TI ∧ a ≠ TO
  nd : ∀ (i j : Nat) (a b : Addr), its[i]? = some a → its[j]? = some b → i ≠ j → a ≠ b
  l : ∀ q ∈ ks, q.2 ≠ z ∧ q.2 ≠ TO ∧ ∀ a ∈ its, q.2 ≠ a
theorem Ap.to' {z TI TO : Addr} {its : List Addr} {ks : List (Bool × Addr)} {cs : List Zs} (D : Ap z TI TO its ks) (h : ∀ (j : Nat) (c : Zs), cs[j]? = some c → its[j]? = some c.it ∧ ∃ q, ks[j]? = some q ∧ c.l = q.2) : Apart z TI TO cs := by
  have hm : ∀ c ∈ cs, c.it ∈ its ∧ ∃ q ∈ ks, c.l = q.2 := fun c hc => by
    obtain ⟨j, hj⟩ := List.mem_iff_getElem?.mp hc
    obtain ⟨a, q, b, d⟩ := h j c hj
    exact ⟨List.mem_of_getElem? a, q, List.mem_of_getElem? b, d⟩
  refine ⟨D.tz, D.oz, D.to, fun c hc => D.i _ (hm c hc).1, fun i j c d hc hd e => D.nd i j _ _ (h i c hc).1 (h j d hd).1 e, fun c hc => ?_⟩
  obtain ⟨_, q, hq, e⟩ := hm c hc
  rw [e]
  exact ⟨(D.l q hq).1, (D.l q hq).2.1, fun d hd => (D.l q hq).2.2 _ (hm d hd).1⟩
theorem turn_zs {P : Program} {w : World} {K : PySem.W.Frag} {elts : List Expr} {kk : Nat} {tpos : Pos} {z TI TO : Addr} {its : List Addr} {ks : List (Bool × Addr)} (D : Ap z TI TO its ks) (hl : its.length = ks.length) (hne : ks ≠ []) (hn : ks.length ≤ 100) :
    Turn P w K (.Tuple elts kk tpos) (ItzN K ks) (z :: TI :: TO :: its) z (fun i h => IsZip h z TI TO .none ∧ IsT h TI (its.map Value.ref) ∧ (∃ ts, ts.length = ks.length ∧ IsT h TO ts) ∧ ∀ (j : Nat) (q : Bool × Addr) (it : Addr), ks[j]? = some q → its[j]? = some it → SrcI h i q.1 it q.2) where
  mem := by simp
  obj := fun i h st c hc => by
    obtain ⟨hz, hTI, ⟨ts, _, hTO⟩, hi⟩ := st
    rcases List.mem_cons.mp hc with q | hc
    · rw [q]; exact ⟨_, hz, fun v q => nomatch q⟩
    rcases List.mem_cons.mp hc with q | hc
    · rw [q]; exact ⟨_, hTI, fun v q => nomatch q⟩
    rcases List.mem_cons.mp hc with q | hc
    · rw [q]; exact ⟨_, hTO, fun v q => nomatch q⟩
    obtain ⟨j, hj⟩ := List.mem_iff_getElem?.mp hc
    have hjl : j < ks.length := by
      have := (List.getElem?_eq_some_iff.mp hj).1
      omega
    have q := hi j _ c (List.getElem?_eq_getElem hjl) hj
    generalize ks[j] = kq at q
    obtain ⟨b, a⟩ := kq
    cases b with
    | true => obtain ⟨o, e, _, d⟩ := q; exact ⟨o, e, fun v q => by rw [d] at q; cases q⟩
    | false => obtain ⟨o, e, _, d⟩ := q; exact ⟨o, e, fun v q => by rw [d] at q; cases q⟩
  keep := fun i h h' st k => by
    obtain ⟨hz, hTI, ⟨ts, ht, hTO⟩, hi⟩ := st
    refine ⟨k z (by simp) _ hz, k TI (by simp) _ hTI, ⟨ts, ht, k TO (by simp) _ hTO⟩, fun j q it h1 h2 => ?_⟩
    have r := hi j q it h1 h2
    have hm : it ∈ z :: TI :: TO :: its := by simp [List.mem_of_getElem? h2]
    obtain ⟨b, a⟩ := q
    cases b with
    | true => obtain ⟨o, e, d⟩ := r; exact ⟨o, k it hm _ e, d⟩
    | false => obtain ⟨o, e, d⟩ := r; exact ⟨o, k it hm _ e, d⟩
  item := by
    intro X hP hw hK hc i pins s σ H E I hf st hg
    subst hP hw hK
    obtain ⟨hz, hTI, ⟨ts, ht, hTO⟩, hi⟩ := st
    obtain ⟨cs, hcl, hcs⟩ := srcs_at I hl hi fun j q h => by
      obtain ⟨xs, x, a, _⟩ := hg j q h
      exact ⟨xs, a⟩
    have hcit : ∀ (j : Nat) (c : Zs), cs[j]? = some c → its[j]? = some c.it := fun j c h => by
      obtain ⟨q, xs, us, a, b, _⟩ := hcs j c h
      exact b
    have er := refs_of (hcl.trans hl.symm) hcit
    have DA : Apart z TI TO cs := D.to' fun j c h => by
      obtain ⟨q, xs, us, a, b, e, _⟩ := hcs j c h
      exact ⟨b, q, a, e⟩
    rw [← er] at hTI
    have cne : cs ≠ [] := fun e => by
      rw [e] at hcl
      exact hne (List.length_eq_zero_iff.mp hcl.symm)
    have hzl : z < s.heap.objs.size := Heap.lt_size hz
    have cmem : ∀ c ∈ cs, ∃ (j : Nat), cs[j]? = some c := fun c h => List.mem_iff_getElem?.mp h
    refine pyNext_zs (k := i) (I.ok.hd hc) DA cne (by omega) hz hTI hTO (ht.trans hcl.symm) (fun c h => ?_) (fun vs h' hvl hv z' TO' sr hT stays => ?_) (fun c h hx => ?_)
    · obtain ⟨j, hj⟩ := cmem c h
      obtain ⟨q, xs, us, _, _, _, _, _, _, z⟩ := hcs j c hj
      exact z
    · refine ⟨_, rfl, wpAny_letOwnedTupleGo_zip (s := { s with heap := h' }) z' fun h'' z'' sb => ?_⟩
      have hT2 : IsT h'' s.heap.objs.size vs := (sb.2 _ (Nat.ne_of_gt hzl)).trans hT
      obtain ⟨ws, hwl, hws⟩ : ∃ ws : List V, ws.length = ks.length ∧ ∀ (j : Nat) (x : V), ws[j]? = some x → ∃ q xs u, ks[j]? = some q ∧ SqK X.K H q.1 q.2 xs ∧ xs[i]? = some x ∧ vs[j]? = some u ∧ RelV x u := by
        refine list_of ks.length fun j hj => ?_
        have e3 := List.getElem?_eq_getElem (show j < cs.length by omega)
        obtain ⟨q, xs, us, a, _, _, sq, rv, ex, _⟩ := hcs j _ e3
        obtain ⟨xs2, x, sq2, hx⟩ := hg j q a
        rw [seq_inj I sq2 sq] at hx
        obtain ⟨u, hu, ru⟩ := rv.get hx
        refine ⟨x, q, xs, u, a, sq, hx, ?_, ru⟩
        rw [← hv j _ e3, ex]
        simpa using hu
      have rws : Vals ws vs := paired_of (by omega) fun j x u h1 h2 => by
        obtain ⟨q, xs, u', _, _, _, hu, ru⟩ := hws j x h1
        rw [h2] at hu
        cases hu
        exact ru
      have new : ObjOk X.prog X.w (upd H s.heap.objs.size (.tup ws)) h'' s.heap.objs.size (.tup ws) :=
        ⟨by rw [hwl, sizeLine_eq]; omega, vs, rws, ⟨_, hT2, rfl, _, rfl⟩⟩
      have hmz : ∀ a, a ∉ z :: TI :: TO :: its → a ≠ z ∧ a ≠ TI ∧ a ≠ TO ∧ ∀ c ∈ cs, a ≠ c.it := fun a ha => by
        simp only [List.mem_cons, not_or] at ha
        refine ⟨ha.1, ha.2.1, ha.2.2.1, fun c hc e => ?_⟩
        obtain ⟨j, hj⟩ := cmem c hc
        exact ha.2.2.2 (e ▸ List.mem_of_getElem? (hcit j c hj))
      have I1 : Inv X pins σ (upd H s.heap.objs.size (.tup ws)) { s with heap := h'' } :=
        I.turnedNew (t' := s.toks) (ch := z :: TI :: TO :: its) (fun a o hb q => by
          obtain ⟨b1, b2, b3, b4⟩ := hmz a hb
          exact (sb.2 a b1).trans (stays a o b1 b3 b4 q)) hf (Nat.le_refl _) new
      refine ⟨.ref s.heap.objs.size, _, I1, rfl, ⟨_, ws, rfl, I.hok.fresh (Nat.le_refl _), rfl, hwl, fun j q xs h1 h2 => ?_⟩, ⟨z'', ?_, ⟨vs, by omega, ?_⟩, fun j q it h1 h2 => ?_⟩, fun c hcm => ?_⟩
      · have e3 := List.getElem?_eq_getElem (show j < ws.length by have := (List.getElem?_eq_some_iff.mp h1).1; omega)
        obtain ⟨q2, xs2, u, a, b, d, _, _⟩ := hws j _ e3
        rw [h1] at a
        cases a
        rw [seq_inj I h2 b]
        exact ⟨_, d, e3⟩
      · rw [← er]
        exact (sb.2 _ D.tz).trans (stays _ _ D.tz D.to (fun c hc => (DA.i c hc).2.1.symm) hTI)
      · exact (sb.2 _ D.oz).trans TO'
      · have hjl : j < cs.length := by have := (List.getElem?_eq_some_iff.mp h1).1; omega
        have e3 := List.getElem?_eq_getElem hjl
        have hci := hcit j _ e3
        rw [h2] at hci
        cases hci
        have e4 := sr _ (List.mem_of_getElem? e3)
        obtain ⟨q2, xs2, us2, a1, a2, a3, a4, a5, a6, a7⟩ := hcs j _ e3
        rw [h1] at a1
        cases a1
        have ni := (DA.i _ (List.mem_of_getElem? e3)).1
        obtain ⟨b, l⟩ := q
        have hri := hi j (b, l) _ h1 h2
        cases b with
        | true =>
          rcases e4 with ⟨x1, x2⟩ | ⟨x1, x2⟩
          · rw [a3] at x1
            exact x1.at fun o q => (sb.2 _ ni).trans q
          · exfalso
            obtain ⟨its', _, p, _⟩ := I.list (show SqL X.K H l xs2 from a4)
            obtain ⟨o1, y1, y2, _⟩ := p.isList
            obtain ⟨o2, y3, y4, _⟩ := x2
            rw [a3] at y3
            have hle := DA.l _ (List.mem_of_getElem? e3)
            rw [a3] at hle
            rw [stays _ _ hle.1 hle.2.1 hle.2.2 y1] at y3
            cases y3
            rw [y2] at y4
            exact absurd y4 (by simp)
        | false =>
          rcases e4 with ⟨x1, x2⟩ | ⟨x1, x2⟩
          · exfalso
            obtain ⟨its', _, p, _⟩ := I.tuple (show SqT X.K H l xs2 from a4)
            obtain ⟨o1, y1, y2, _⟩ := p
            obtain ⟨o2, y3, y4, _⟩ := x2
            rw [a3] at y3
            have hle := DA.l _ (List.mem_of_getElem? e3)
            rw [a3] at hle
            rw [stays _ _ hle.1 hle.2.1 hle.2.2 y1] at y3
            cases y3
            rw [y2] at y4
            exact absurd y4 (by simp)
          · rw [a3] at x1
            exact x1.at fun o q => (sb.2 _ ni).trans q
      · have hlt : c < s.heap.objs.size := by
          rcases List.mem_cons.mp hcm with q | hc
          · rw [q]; exact hzl
          rcases List.mem_cons.mp hc with q | hc
          · rw [q]; exact Heap.lt_size hTI
          rcases List.mem_cons.mp hc with q | hc
          · rw [q]; exact Heap.lt_size hTO
          obtain ⟨j, hj⟩ := List.mem_iff_getElem?.mp hc
          have hjl : j < ks.length := by have := (List.getElem?_eq_some_iff.mp hj).1; omega
          have q := hi j _ c (List.getElem?_eq_getElem hjl) hj
          generalize ks[j] = kq at q
          obtain ⟨b, a⟩ := kq
          cases b with
          | true => obtain ⟨o, e, _⟩ := q; exact Heap.lt_size e
          | false => obtain ⟨o, e, _⟩ := q; exact Heap.lt_size e
        rw [upd_ne (Nat.ne_of_lt hlt)]
        exact (hf c hcm).1
    · exfalso
      obtain ⟨j, hj⟩ := cmem c h
      obtain ⟨q, xs, us, a, _, _, sq, rv, ex, _⟩ := hcs j c hj
      obtain ⟨xs2, x, sq2, hx2⟩ := hg j q a
      rw [seq_inj I sq2 sq] at hx2
      obtain ⟨u, hu, ru⟩ := rv.get hx2
      rw [ex] at hx
      simp only [List.getElem?_toArray] at hx
      rw [hu] at hx
      cases hx
  done := by
    intro X hP hw hK hc i pins s σ H E I hf st hg
    subst hP hw hK
    obtain ⟨hz, hTI, ⟨ts, ht, hTO⟩, hi⟩ := st
    obtain ⟨hall, j0, q0, xs0, hj0, sq0, hle0⟩ := hg
    obtain ⟨cs, hcl, hcs⟩ := srcs_at I hl hi hall
    have hcit : ∀ (j : Nat) (c : Zs), cs[j]? = some c → its[j]? = some c.it := fun j c h => by
      obtain ⟨q, xs, us, a, b, _⟩ := hcs j c h
      exact b
    have er := refs_of (hcl.trans hl.symm) hcit
    have DA : Apart z TI TO cs := D.to' fun j c h => by
      obtain ⟨q, xs, us, a, b, e, _⟩ := hcs j c h
      exact ⟨b, q, a, e⟩
    rw [← er] at hTI
    have cne : cs ≠ [] := fun e => by
      rw [e] at hcl
      exact hne (List.length_eq_zero_iff.mp hcl.symm)
    have cmem : ∀ c ∈ cs, ∃ (j : Nat), cs[j]? = some c := fun c h => List.mem_iff_getElem?.mp h
    refine pyNext_zs (k := i) (I.ok.hd hc) DA cne (by omega) hz hTI hTO (ht.trans hcl.symm) (fun c h => ?_) (fun vs h' hvl hv z' TO' sr hT stays => ?_) (fun c h hx h' stays => ⟨rfl, ?_⟩)
    · obtain ⟨j, hj⟩ := cmem c h
      obtain ⟨q, xs, us, _, _, _, _, _, _, z⟩ := hcs j c hj
      exact z
    · exfalso
      have hjl : j0 < cs.length := by have := (List.getElem?_eq_some_iff.mp hj0).1; omega
      have e3 := List.getElem?_eq_getElem hjl
      obtain ⟨q2, xs2, us2, a1, a2, a3, a4, a5, a6, a7⟩ := hcs j0 _ e3
      rw [hj0] at a1
      cases a1
      have hlen := a5.length
      rw [seq_inj I a4 sq0] at hlen
      have e5 := hv j0 _ e3
      rw [a6, List.getElem?_toArray, List.getElem?_eq_none_iff.mpr (by omega), List.getElem?_eq_getElem (show j0 < vs.length by omega)] at e5
      cases e5
    · refine I.turnedL (t' := s.toks) (ch := z :: TI :: TO :: its) (fun a o ha q => ?_) hf
      simp only [List.mem_cons, not_or] at ha
      refine stays a o ha.1 ha.2.2.1 (fun c hc e => ?_) q
      obtain ⟨j, hj⟩ := cmem c hc
      exact ha.2.2.2 (e ▸ List.mem_of_getElem? (hcit j c hj))
  self := fun A i s Q E st h => wpAny_pyIter_zip st.1 h
def iZipN (K : PySem.W.Frag) (ta : TA) : TI := fun σ H R => ta σ H fun vs H1 => ∃ ks : List (Bool × Addr), vs = ks.map (fun q => V.ref q.2) ∧ (ks.length = 2 ∨ ks.length = 3) ∧ (∀ q ∈ ks, ∃ xs, SqK K H1 q.1 q.2 xs) ∧ R (ItzN K ks) H1
theorem vals_refs : ∀ {ks : List (Bool × Addr)} {us : List Value}, Vals (ks.map (fun q => V.ref q.2)) us → us = ks.map fun q => Value.ref q.2
  | [], _, .nil => rfl
  | q :: ks, _, .cons r t => by
    cases r
    rw [vals_refs t]
    rfl
theorem few_of : ∀ {us : List Value}, us.length = 2 ∨ us.length = 3 → Few us
  | [a, b], _ => few2 a b
  | [a, b, c], _ => few3 a b c
  | [], h => by simp at h
  | [a], h => by simp at h
  | _ :: _ :: _ :: _ :: _, h => by simp at h
theorem pi_zipN {X : Cx} {e : Expr} {es : List Expr} {ta : TA} {p pos tpos : Pos} {elts : List Expr} {kk : Nat} (hg : Gl X "zip") (hm : X.mg "zip" = none) (ha : PA X (e :: es) ta)
    (hs : starEach (e :: es) X.env = (false, eval e X.env) :: starEach es X.env := by rfl) (hpl : (backTo pos (starEach es X.env)).any (·.1) = false := by rfl) :
    PI X (.Tuple elts kk tpos) (.Call (.Name "zip" p) (e :: es) [] pos) (iZipN X.K ta) := by
  refine ⟨fun pins s σ H R I h => ?_⟩
  refine Call_ (ld_blt I hg hm PyProof.Rows.boot_zip (PyProof.Rows.callWith_type1 (thn (ha.run pos pins s σ H _ I h) fun us s1 ⟨vs, H1, I1, r1, q1⟩ => ?_) hs hpl))
  obtain ⟨ks, ex, hks, hsq, q1⟩ := q1
  subst ex
  have eu := vals_refs r1
  subst eu
  obtain ⟨ls, hll, hls⟩ : ∃ ls : List (Addr × Array Value), ls.length = ks.length ∧ ∀ (j : Nat) (l : Addr × Array Value), ls[j]? = some l → ∃ q, ks[j]? = some q ∧ l.1 = q.2 ∧ Shp q.1 s1.heap l.1 l.2 := by
    refine list_of ks.length fun j hj => ?_
    have e1 := List.getElem?_eq_getElem hj
    generalize ks[j] = q at e1
    obtain ⟨xs, hx⟩ := hsq q (List.mem_of_getElem? e1)
    obtain ⟨us, rv, hs⟩ := seq_at I1 hx
    obtain ⟨b, a⟩ := q
    exact ⟨(a, us.toArray), (b, a), e1, rfl, hs⟩
  have em : (ks.map fun q => Value.ref q.2) = ls.map fun q => Value.ref q.1 := List.ext_getElem? fun j => by
    rw [List.getElem?_map, List.getElem?_map]
    cases hc : ls[j]? with
    | none =>
      rw [List.getElem?_eq_none_iff] at hc
      rw [List.getElem?_eq_none_iff.mpr (by omega)]
      rfl
    | some c =>
      obtain ⟨q, a, b, _⟩ := hls j c hc
      rw [a]
      show some (Value.ref q.2) = some (Value.ref c.1)
      rw [b]
  have lt : ∀ l ∈ ls, l.1 < s1.heap.objs.size := fun l hl => by
    obtain ⟨j, hj⟩ := List.mem_iff_getElem?.mp hl
    obtain ⟨⟨b, a⟩, _, _, d⟩ := hls j l hj
    cases b with
    | true => obtain ⟨o, e, _⟩ := d; exact Heap.lt_size e
    | false => obtain ⟨o, e, _⟩ := d; exact Heap.lt_size e
  rw [em]
  refine call_zs (few_of (by rw [List.length_map, hll]; exact hks)) (by omega) (fun l hl => ?_) fun h' cs ecs hz hTI hTO hsr hk => wpAny_pyIter_zip hz ?_
  · obtain ⟨j, hj⟩ := List.mem_iff_getElem?.mp hl
    obtain ⟨⟨b, a⟩, _, _, d⟩ := hls j l hj
    cases b with
    | true => exact .inl d
    | false => exact .inr d
  have I2 : L2.Inv X pins σ H1 { s1 with heap := h' } := I1.kept (t' := s1.toks) hk
  have hcl : cs.length = ks.length := by rw [ecs, made_len, hll]
  have AP := made_apart (h := s1.heap) lt
  rw [← ecs] at AP
  have er : refsOf cs = (cs.map (·.it)).map Value.ref := by
    unfold refsOf
    rw [List.map_map]
    rfl
  have hat : ∀ (j : Nat) (c : Zs), cs[j]? = some c → c.it = s1.heap.objs.size + j ∧ ∃ q, ks[j]? = some q ∧ c.l = q.2 ∧ Shp q.1 s1.heap c.l c.xs := fun j c hc => by
    rw [ecs] at hc
    obtain ⟨a, l, b, d, f⟩ := made_get hc
    obtain ⟨q, x1, x2, x3⟩ := hls j l b
    refine ⟨a, q, x1, d.trans x2, ?_⟩
    rw [d, f]
    exact x3
  have APk : Ap (s1.heap.objs.size + ls.length + 2) (s1.heap.objs.size + ls.length) (s1.heap.objs.size + ls.length + 1) (cs.map (·.it)) ks := by
    refine ⟨AP.tz, AP.oz, AP.to, fun a ha => ?_, fun i j a b h1 h2 e => ?_, fun q hq => ?_⟩
    · obtain ⟨c, hc, rfl⟩ := List.mem_map.mp ha
      exact AP.i c hc
    · rw [List.getElem?_map, Option.map_eq_some_iff] at h1 h2
      obtain ⟨c, hc, rfl⟩ := h1
      obtain ⟨d, hd, rfl⟩ := h2
      exact AP.nd i j c d hc hd e
    · obtain ⟨j, hj⟩ := List.mem_iff_getElem?.mp hq
      have e3 := List.getElem?_eq_getElem (show j < cs.length by have := (List.getElem?_eq_some_iff.mp hj).1; omega)
      obtain ⟨_, q2, a, b, _⟩ := hat j _ e3
      rw [hj] at a
      cases a
      have r := AP.l _ (List.mem_of_getElem? e3)
      rw [b] at r
      refine ⟨r.1, r.2.1, fun a ha => ?_⟩
      obtain ⟨c, hc, rfl⟩ := List.mem_map.mp ha
      exact r.2.2 c hc
  have kne : ks ≠ [] := fun e => by
    rw [e] at hks
    simp at hks
  refine ⟨s1.heap.objs.size + ls.length + 2, (s1.heap.objs.size + ls.length + 2) :: (s1.heap.objs.size + ls.length) :: (s1.heap.objs.size + ls.length + 1) :: cs.map (·.it), _, _, H1, rfl, I2,
    turn_zs APk (by rw [List.length_map, hcl]) kne (by omega), ⟨hz, by rw [← er]; exact hTI, ⟨_, by rw [List.length_map, hcl], hTO⟩, fun j q it h1 h2 => ?_⟩, fun c hc => ?_, q1⟩
  · rw [List.getElem?_map, Option.map_eq_some_iff] at h2
    obtain ⟨c, hc, rfl⟩ := h2
    have sr := hsr c (List.mem_of_getElem? hc)
    obtain ⟨_, q2, a, b, d⟩ := hat j c hc
    rw [h1] at a
    cases a
    obtain ⟨kb, l⟩ := q
    cases kb with
    | true =>
      rcases sr with ⟨x1, x2⟩ | ⟨x1, x2⟩
      · rw [b] at x1
        exact x1
      · exfalso
        obtain ⟨o1, y1, y2, _⟩ := d
        obtain ⟨o2, y3, y4, _⟩ := x2
        rw [hk _ _ y1] at y3
        cases y3
        rw [y2] at y4
        exact absurd y4 (by simp)
    | false =>
      rcases sr with ⟨x1, x2⟩ | ⟨x1, x2⟩
      · exfalso
        obtain ⟨o1, y1, y2, _⟩ := d
        obtain ⟨o2, y3, y4, _⟩ := x2
        rw [hk _ _ y1] at y3
        cases y3
        rw [y2] at y4
        exact absurd y4 (by simp)
      · rw [b] at x1
        exact x1
  · have hle : s1.heap.objs.size ≤ c := by
      rcases List.mem_cons.mp hc with z | hc
      · rw [z]; exact Nat.le_trans (Nat.le_add_right _ _) (Nat.le_add_right _ _)
      rcases List.mem_cons.mp hc with z | hc
      · rw [z]; exact Nat.le_add_right _ _
      rcases List.mem_cons.mp hc with z | hc
      · rw [z]; exact Nat.le_trans (Nat.le_add_right _ _) (Nat.le_add_right _ _)
      obtain ⟨c', hc', rfl⟩ := List.mem_map.mp hc
      obtain ⟨j, hj⟩ := List.mem_iff_getElem?.mp hc'
      rw [(hat j c' hj).1]
      exact Nat.le_add_right _ _
    exact I1.fpOk hle (I1.hok.fresh hle)
end
end ZN

/-! DLw: zip, extend, sorted ints, a, b = a list, comprehensions over i, (j, k). -/
namespace DL
open PySem PySem.Spec PyProof.Rows L2
/-! ### extend -/
def fExtend : D1N := fun x ds κ Q => match x, ds with
  | .cell n, [.node .lst ys] => ∃ xs, κ n = some (.live .lst xs) ∧ xs.length + ys.length ≤ sizeLine ∧ Q .non (kset κ n (.live .lst (xs ++ ys)))
  | _, _ => False
theorem sim_extend {C : Ctx} : Sim1N C fExtend rExtend := by
  intro F ρ κ H x v ds vs QD Q S rx rd h P
  match x, ds, h with
  | .cell n, [.node .lst ys], ⟨xs, h1, h2, h3⟩ =>
    obtain ⟨a, ws, rfl, h4, h5, h6, h7⟩ := cell_lst S rx h1
    obtain ⟨w, rfl, rw'⟩ := repL1 rd
    cases rw' with
    | @node _ _ b us hk rl =>
      have hb : H b = some (.lst us) := S.sub _ _ hk
      exact ⟨a, b, ws, us, rfl, rfl, h5, hb, by rw [← h6.length, ← rl.length]; exact h2, P _ _ _ _ _ _ (Ext.refl _ _) (h7 _ _ (h6.append rl)) .non h3⟩
section
variable {X : Cx} {W : WX} {o e : Expr} {es : List Expr} {a : DE} {as : DA} {apos cpos : Pos}
theorem pd_extend (ho : PED X W o a) (ha : PAD X W (e :: es) as) (hbase : attributeBase o "extend" X.env (eval o X.env) = eval o X.env := by rfl)
    (hfew : ((backTo cpos (starEach (e :: es) X.env)).all (fun x => !x.1) && (backToKw cpos (keywordEach [] X.env)).all (fun x => x.1.isSome) && decide ((e :: es).length + ([] : List Keyword).length + (if ([] : List Keyword).isEmpty then 0 else 1) < 30)) = true := by rfl)
    (hline : (apos.endLine == cpos.line) = true := by rfl) (hs : starEach (e :: es) X.env = (false, eval e X.env) :: starEach es X.env := by rfl) (hplain : (backTo cpos (starEach es X.env)).any (·.1) = false := by rfl) :
    PED X W (.Call (.Attribute o "extend" apos) (e :: es) [] cpos) (dBM "list" fExtend a as) :=
  pe_weak (pe_bm PySem.F.plainAttrs_list PySem.F.slot_list_extend PySem.F.type_list_extend mt_extend ho ha hbase hfew hline hs hplain) fun _ _ _ => lift_bm sim_extend
end
/-! ### sorted -/
theorem RepL.intsV {C : Ctx} {F : Hp} {ρ : Loc0} : ∀ {ns : List Int} {vs : List V}, RepL C F ρ (ns.map D.int) vs → vs = ns.map V.int
  | [], _, .nil => rfl
  | _ :: _, _, .cons h t => by
    cases h
    rw [RepL.intsV t]
    rfl
def fSortI : DN := fun xs κ Q => match xs with
  | [d] => ∃ ns : List Int, view d κ = some (.lst, ns.map D.int) ∧ ∀ ns' : List Int, ns'.Perm ns → ns'.Pairwise (· ≤ ·) → Q (.node .lst (ns'.map D.int)) κ
  | _ => False
theorem sim_sortI {C : Ctx} : SimN C fSortI (rSortedI C.K) := by
  intro F ρ κ H xs vs QD Q S r h P
  match xs, h with
  | [d], ⟨ns, h1, h2⟩ =>
    obtain ⟨v, rfl, rv⟩ := repL1 r
    obtain ⟨a, ws, rfl, hk, rl⟩ := view_at S rv h1
    have e := rl.intsV
    subst e
    refine ⟨a, ns, rfl, SqL.of hk, fun ns' p hp hs hn => ?_⟩
    obtain ⟨ex, S2⟩ := S.laid (p := p) (o := .lst (ns'.map V.int)) hn
    exact P _ _ _ _ _ _ ex S2 (.node (k := .lst) upd_same RepL.ofInts) (h2 ns' hp hs)
/-! ### a, b = a list -/
def gLstD (n : Nat) (g : DGs) : DG := fun d δ κ X Q => ∃ xs, view d κ = some (.lst, xs) ∧ xs.length = n ∧ g xs δ κ X Q
theorem pg_lstD {X : Cx} {W : WX} {es : List Expr} {r : DGs} {pos : Pos} {n : Nat} {kk : Nat} (hc : X.calm = true) (h : PGsD X W es r) (hn : (assignEach es X.env).length = n := by rfl) (hst : (assignEach es X.env).findIdx? (·.1) = none := by rfl) : PGD X W (.Tuple es kk pos) (gLstD n r) :=
  pg_weak (pg_lst (k := kk) hc h hn hst) fun v σ H Q ⟨F, ρ, κ, δ, d, XD, QD, S, R, rr, ⟨xs, h1, h2, h3⟩, P, PX⟩ => by
  obtain ⟨a, vs, rfl, hk, rl⟩ := view_at S rr h1
  exact ⟨a, vs, rfl, SqL.of hk, by rw [← rl.length]; exact h2, F, ρ, κ, δ, xs, XD, _, S, R, rl, h3, P, PX⟩
/-! ### zip -/
def zipK : Kd → Option Bool
  | .lst => some true
  | .tup => some false
  | _ => none
/-- what a zip tells: rows as long as there are things in all -/
def rowsD (yss : List (List D)) (i : Nat) : List D := yss.filterMap (·[i]?)
def zipD (yss : List (List D)) (n : Nat) : List D := (List.range n).map fun i => .node .tup (rowsD yss i)
def zQ (QI : List D → (Kap → Prop) → Kap → Prop) (xs : List D) (κ : Kap) : Prop := (xs.length = 2 ∨ xs.length = 3) ∧ ∃ (ks : List (Kd × Bool)) (yss : List (List D)) (n : Nat), ks.length = xs.length ∧ yss.length = xs.length ∧
  (∀ (j : Nat) (x : D), xs[j]? = some x → ∃ k b ys, ks[j]? = some (k, b) ∧ zipK k = some b ∧ yss[j]? = some ys ∧ n ≤ ys.length ∧ view x κ = some (k, ys)) ∧ (∃ ys ∈ yss, ys.length = n) ∧
  QI (zipD yss n) (fun κ' => ∀ (j : Nat) (x : D), xs[j]? = some x → view x κ' = view x κ) κ
def iZipD (as : DA) : DI := fun δ κ X QI => as δ κ X (zQ QI)
theorem rows_get : ∀ {yss : List (List D)} {i : Nat}, (∀ ys ∈ yss, i < ys.length) → (rowsD yss i).length = yss.length ∧ ∀ (j : Nat) (ys : List D), yss[j]? = some ys → ∃ y, ys[i]? = some y ∧ (rowsD yss i)[j]? = some y
  | [], _, _ => ⟨rfl, fun j ys h => by simp at h⟩
  | zs :: yss, i, h => by
    have hz := h zs List.mem_cons_self
    obtain ⟨ih1, ih2⟩ := rows_get (yss := yss) (i := i) fun ys hy => h ys (List.mem_cons_of_mem _ hy)
    have e : rowsD (zs :: yss) i = zs[i] :: rowsD yss i := by
      unfold rowsD
      rw [List.filterMap_cons, List.getElem?_eq_getElem hz]
    rw [e]
    refine ⟨by rw [List.length_cons, List.length_cons, ih1], fun j ys hj => ?_⟩
    cases j with
    | zero =>
      cases hj
      exact ⟨_, List.getElem?_eq_getElem hz, rfl⟩
    | succ j => exact ih2 j ys hj
theorem repL_of {C : Ctx} {F : Hp} {ρ : Loc0} : ∀ {ds : List D} {vs : List V}, ds.length = vs.length → (∀ (j : Nat) (d : D) (v : V), ds[j]? = some d → vs[j]? = some v → Rep C F ρ d v) → RepL C F ρ ds vs
  | [], [], _, _ => .nil
  | [], _ :: _, h, _ => by simp at h
  | _ :: _, [], h, _ => by simp at h
  | d :: ds, v :: vs, h, p => .cons (p 0 d v rfl rfl) (repL_of (by simpa using h) fun j x y h1 h2 => p (j + 1) x y h1 h2)
theorem hold_sq {C : Ctx} {H : Hp} {k : Kd} {b : Bool} {a : Addr} {vs : List V} (hb : zipK k = some b) (h : HoldK C H k a vs) : ZN.SqK C.K H b a vs := by
  cases k <;> first | (cases hb; exact SqL.of h) | (cases hb; exact h) | cases hb
section
variable {X : Cx} {W : WX} {e : Expr} {es : List Expr} {as : DA} {p pos tpos : Pos} {elts : List Expr} {kk : Nat}
theorem pi_zipD (hm : X.mg "zip" = none) (ha : PAD X W (e :: es) as) (hg : Gl X "zip" := by rfl) (hs : starEach (e :: es) X.env = (false, eval e X.env) :: starEach es X.env := by rfl) (hpl : (backTo pos (starEach es X.env)).any (·.1) = false := by rfl) :
    PID X W (.Tuple elts kk tpos) (.Call (.Name "zip" p) (e :: es) [] pos) (iZipD as) :=
  pi_weak (ZN.pi_zipN hg hm ha hs hpl) fun σ H R ⟨F, ρ, κ, δ, XD, QD, S, Rr, h, P, PX⟩ => ⟨F, ρ, κ, δ, XD, _, S, Rr, h, fun F1 ρ1 κ1 H1 xs vs e1 S1 R1 hz => by
    obtain ⟨hxl, kbs, yss, n, hkl, hyl, hall, ⟨y0, hy0, hy0n⟩, hq⟩ := hz
    have hvl := R1.length
    obtain ⟨ks, hksl, hks⟩ : ∃ ks : List (Bool × Addr), ks.length = xs.length ∧ ∀ (j : Nat) (q : Bool × Addr), ks[j]? = some q → vs[j]? = some (.ref q.2) ∧ ∃ x k ys, xs[j]? = some x ∧ zipK k = some q.1 ∧ yss[j]? = some ys ∧ n ≤ ys.length ∧ view x κ1 = some (k, ys) := by
      refine ZN.list_of xs.length fun j hj => ?_
      have e1' := List.getElem?_eq_getElem hj
      generalize xs[j] = x at e1'
      obtain ⟨k, b, ys, a1, a2, a3, a4, a5⟩ := hall j x e1'
      obtain ⟨v, hv, rv⟩ := R1.get e1'
      obtain ⟨a, ws, rfl, hk, rl⟩ := view_at S1 rv a5
      exact ⟨(b, a), hv, x, k, ys, e1', a2, a3, a4, a5⟩
    have ev : vs = ks.map fun q => V.ref q.2 := List.ext_getElem? fun j => by
      rw [List.getElem?_map]
      cases hc : ks[j]? with
      | none =>
        rw [List.getElem?_eq_none_iff] at hc
        rw [List.getElem?_eq_none_iff.mpr (by omega)]
        rfl
      | some q => exact (hks j q hc).1
    have now : ∀ {F' : Hp} {ρ' : Loc0} {κ' : Kap} {H' : Hp}, Ext F1 ρ1 F' ρ' → StR (CtxOf X) F' ρ' κ' H' → (∀ (j : Nat) (x : D), xs[j]? = some x → view x κ' = view x κ1) → ∀ (j : Nat) (q : Bool × Addr), ks[j]? = some q → ∃ ys ws, yss[j]? = some ys ∧ n ≤ ys.length ∧ ZN.SqK X.K H' q.1 q.2 ws ∧ RepL (CtxOf X) F' ρ' ys ws := fun ex St hg j q hj => by
      obtain ⟨b1, x, k, ys, b2, b3, b4, b5, b6⟩ := hks j q hj
      obtain ⟨v, hv, rv⟩ := (R1.ext ex).get b2
      rw [b1] at hv
      cases hv
      obtain ⟨a, ws, ea, hk, rl⟩ := view_at St rv ((hg j x b2).trans b6)
      cases ea
      exact ⟨ys, ws, b4, b5, hold_sq b3 hk, rl⟩
    refine ⟨ks, ev, by rw [hksl]; exact hxl, fun q hq' => ?_, P _ _ _ _ _ _ _ e1 S1 (fun F' ρ' κ' H' i ex St hg => ?_) hq⟩
    · obtain ⟨j, hj⟩ := List.mem_iff_getElem?.mp hq'
      obtain ⟨ys, ws, _, _, a, _⟩ := now (Ext.refl _ _) S1 (fun _ _ _ => rfl) j q hj
      exact ⟨ws, a⟩
    · have hzl : (zipD yss n).length = n := by
        unfold zipD
        rw [List.length_map, List.length_range]
      have big : ∀ ys ∈ yss, n ≤ ys.length := fun ys hy => by
        obtain ⟨j, hj⟩ := List.mem_iff_getElem?.mp hy
        have hjl : j < xs.length := by
          have := (List.getElem?_eq_some_iff.mp hj).1
          omega
        obtain ⟨k, b, ys2, _, _, a3, a4, _⟩ := hall j _ (List.getElem?_eq_getElem hjl)
        rw [hj] at a3
        cases a3
        exact a4
      refine ⟨fun hi => ?_, fun d hd => ?_⟩
      · rw [hzl] at hi
        refine ⟨fun j q hj => ?_, ?_⟩
        · obtain ⟨ys, ws, _, _, a, _⟩ := now ex St hg j q hj
          exact ⟨ws, a⟩
        · obtain ⟨j, hj⟩ := List.mem_iff_getElem?.mp hy0
          have hjl : j < ks.length := by
            have := (List.getElem?_eq_some_iff.mp hj).1
            omega
          have e3 := List.getElem?_eq_getElem hjl
          obtain ⟨ys, ws, a1, _, a2, a3⟩ := now ex St hg j _ e3
          rw [hj] at a1
          cases a1
          exact ⟨j, _, ws, e3, a2, by rw [← a3.length, hy0n, hi]; exact Nat.le_refl _⟩
      · have hin : i < n := by
          have := (List.getElem?_eq_some_iff.mp hd).1
          omega
        have ed : d = .node .tup (rowsD yss i) := by
          unfold zipD at hd
          rw [List.getElem?_map, List.getElem?_range hin] at hd
          cases hd
          rfl
        subst ed
        obtain ⟨r1, r2⟩ := rows_get (yss := yss) (i := i) fun ys hy => Nat.lt_of_lt_of_le hin (big ys hy)
        refine ⟨fun j q hj => ?_, fun x H2 hy => ?_⟩
        · obtain ⟨ys, ws, a1, a2, a3, a4⟩ := now ex St hg j q hj
          obtain ⟨y, hy, _⟩ := r2 j ys a1
          obtain ⟨w, hw, _⟩ := a4.get hy
          exact ⟨ws, w, a3, hw⟩
        · obtain ⟨T, ts, rfl, hT, rfl, htl, hts⟩ := hy
          obtain ⟨ex2, S2⟩ := St.laid (p := T) (o := .tup ts) hT
          refine ⟨_, ex2, S2, .node (k := .tup) (.inl (.inl upd_same)) (repL_of (by rw [r1, htl]; omega) fun j d2 v2 h1 h2 => ?_)⟩
          have hjl : j < ks.length := by
            have := (List.getElem?_eq_some_iff.mp h2).1
            omega
          have e3 := List.getElem?_eq_getElem hjl
          obtain ⟨ys, ws, a1, a2, a3, a4⟩ := now ex St hg j _ e3
          obtain ⟨y, hy, hr⟩ := r2 j ys a1
          rw [h1] at hr
          cases hr
          obtain ⟨w, hw, rw'⟩ := a4.get hy
          obtain ⟨u, hu, hv2⟩ := hts j _ ws e3 a3
          rw [hw] at hu
          cases hu
          rw [h2] at hv2
          cases hv2
          exact rw'.ext ex2, PX⟩
end
/-! ### comprehensions over i, (j, k) -/
def bindP (i j k : Nat) (d : D) (δ : DEnv) (κ : Kap) : Option DEnv := match view d κ with
  | some (.tup, [x, y]) => match view y κ with
    | some (.tup, [a, b]) => some (((δ.set i (some x)).set j (some a)).set k (some b))
    | _ => none
  | _ => none
def gvP (K : PySem.W.Frag) (i j k : Nat) : TG := gTup K 2 (gCons (gName i) (gCons (gTup K 2 (gvL [j, k])) gNil))
def lpLoop (n : Nat) (i j k : Nat) (e : DE) (gd : Kap → Prop) (vs : List Nat) (δ : DEnv) (fin : List D → Kap → Prop) : List D → List D → Kap → Prop
  | [], acc, κ => gd κ ∧ fin acc κ
  | d :: ds, acc, κ => gd κ ∧ ∃ δ1, bindP i j k d (dwipe δ vs) κ = some δ1 ∧ e δ1 κ XF fun y κ3 => κ3 n = some (.live .lst acc) ∧ acc.length < sizeLine ∧ lpLoop n i j k e gd vs δ fin ds (acc ++ [y]) (kset κ3 n (.live .lst (acc ++ [y])))
def dLp (m : Bool) (it : DI) (i j k : Nat) (e : DE) (vs : List Nat) : DE := fun δ κ X Q => it δ κ X fun items gd κ1 => ∀ n, κ1 n = none →
  lpLoop n i j k e gd vs δ (fun acc κ' => κ' n = some (.live .lst acc) ∧ if m = true then Q (.cell n) κ' else Q (.lst acc) (kset κ' n .dead)) items [] (kset κ1 n (.live .lst []))
theorem lp_gd {n : Nat} {i j k : Nat} {e : DE} {gd : Kap → Prop} {vs : List Nat} {δ : DEnv} {fin : List D → Kap → Prop} {ds acc : List D} {κ : Kap} (h : lpLoop n i j k e gd vs δ fin ds acc κ) : gd κ := by
  cases ds with
  | nil => exact h.1
  | cons d ds => exact h.1
theorem bindP_at {C : Ctx} {F : Hp} {ρ : Loc0} {κ : Kap} {H : Hp} {i j k : Nat} {d : D} {v : V} {δ δ' : DEnv} {σ : L2.St} {vs0 : List Nat} {σ0 : L2.St} {Q : L2.St → Hp → Prop} (S : StR C F ρ κ H) (hi : ∀ x ∈ [i, j, k], x ∈ vs0) (h : bindP i j k d δ κ = some δ') (R : RepS C F ρ δ σ) (r : Rep C F ρ d v) (hw : L2.wipe σ vs0 = σ0)
    (hq : ∀ σ', RepS C F ρ δ' σ' → L2.wipe σ' vs0 = σ0 → Q σ' H) : gvP C.K i j k v σ H Q := by
  have h' : (match view d κ with
    | some (.tup, [x, y]) => match view y κ with
      | some (.tup, [a, b]) => some (((δ.set i (some x)).set j (some a)).set k (some b))
      | _ => none
    | _ => none) = some δ' := h
  cases ev : view d κ with
  | none => rw [ev] at h'; cases h'
  | some p =>
    obtain ⟨kd, xs⟩ := p
    rw [ev] at h'
    cases kd <;> first | (cases h'; done) | skip
    match xs, h', ev with
    | [x, y], h', ev =>
      dsimp only at h'
      cases ev2 : view y κ with
      | none => rw [ev2] at h'; cases h'
      | some p2 =>
        obtain ⟨kd2, zs⟩ := p2
        rw [ev2] at h'
        cases kd2 <;> first | (cases h'; done) | skip
        match zs, h', ev2 with
        | [a, b], h', ev2 =>
          cases h'
          obtain ⟨q, vs, rfl, hk, rl⟩ := view_at S r ev
          obtain ⟨u1, u2, rfl, ru1, ru2⟩ := repL2 rl
          obtain ⟨q2, vs2, rfl, hk2, rl2⟩ := view_at S ru2 ev2
          obtain ⟨u3, u4, rfl, ru3, ru4⟩ := repL2 rl2
          have m1 := hi i (by simp)
          have m2 := hi j (by simp)
          have m3 := hi k (by simp)
          refine ⟨q, _, rfl, hk, rfl, _, _, rfl, _, _, rfl, q2, _, rfl, hk2, rfl, _, _, rfl, _, _, rfl, rfl, rfl, ?_⟩
          refine hq _ (((R.set ru1 i).set ru3 j).set ru4 k) ?_
          rw [wipe_set m3, wipe_set m2, wipe_set m1]
          exact hw
theorem lift_lp {C : Ctx} {W : WX} {m : Bool} {it : DI} {i0 j0 k0 : Nat} {e : DE} {vs : List Nat} {ttv : TT} {ev : TE} (ht : ∀ {σ H Q}, liftT C WF tYesD σ H Q → ttv σ H Q) (he : ∀ {σ H Q}, liftE C WF e σ H Q → ev σ H Q) (hi : ∀ x ∈ [i0, j0, k0], x ∈ vs)
    {σ : L2.St} {H : Hp} {Q : VK} (h : liftE C W (dLp m it i0 j0 k0 e vs) σ H Q) : tLc (liftI C W it) (gvP C.K i0 j0 k0) ttv ev vs σ H Q := by
  obtain ⟨F, ρ, κ, δ, XD, QD, S, R, h, P, PX⟩ := h
  refine ⟨F, ρ, κ, δ, XD, _, S, R, h, fun F1 ρ1 κ1 H1 J items gd e1 S1 hJ h1 D0 hD => ?_, PX⟩
  obtain ⟨n, hn⟩ := S1.fresh
  obtain ⟨ρ2, e2, hr2, S2⟩ := S1.cell (o := .lst []) (k := .lst) (vs := []) (xs := []) hD (fun _ q => q) .nil hn
  have h2 := h1 n hn
  refine ⟨fun i m H => ∃ F3 ρ3 κ3 acc, Ext F1 ρ2 F3 ρ3 ∧ StR C F3 ρ3 κ3 H ∧ i ≤ items.length ∧ m = items.length - i ∧ lpLoop n i0 j0 k0 e gd vs δ _ (items.drop i) acc κ3, ⟨_, F1, ρ2, _, [], Ext.refl _ _, S2, Nat.zero_le _, rfl, h2⟩, ?_⟩
  rintro i m' H ⟨F3, ρ3, κ3, acc, e3, S3, hi3, rfl, h3⟩
  have e23 := e2.trans e3
  have hr3 := e3.r _ _ hr2
  obtain ⟨q1, q2⟩ := hJ F3 ρ3 κ3 H i e23 S3 (lp_gd h3)
  by_cases hlt : i < items.length
  · obtain ⟨q3, q4⟩ := q2 _ (List.getElem?_eq_getElem hlt)
    rw [List.drop_eq_getElem_cons hlt] at h3
    obtain ⟨_, δ1, hb, h4⟩ := h3
    refine .inr ⟨q3, _, fun _ h => h, fun x H4 hy => ?_⟩
    obtain ⟨F4, e4, S4, R4⟩ := q4 x H4 hy
    have e34 := e23.trans e4
    refine bindP_at (σ0 := L2.wipe σ vs) S4 hi hb ((R.ext (e1.trans e34)).wipe vs) R4 (wipe_wipe fun _ h => h) fun σ5 R5 hw => ⟨hw, ht ⟨F4, ρ3, κ3, δ1, XF, fun b κ => b = true ∧ e δ1 κ XF _, S4, R5, ⟨rfl, h4⟩, fun F5 ρ5 κ5 H5 b e5 S5 h5 => ?_, fun _ _ _ _ _ _ _ _ _ _ _ _ _ _ h => h.elim⟩⟩
    have e45 := e34.trans e5
    obtain ⟨rfl, h5⟩ := h5
    show ev σ5 H5 _
    refine he ⟨F5, ρ5, κ5, δ1, XF, _, S5, R5.ext e5, h5, fun F6 ρ6 κ6 H6 y v e6 S6 R6 ⟨h6, h7, h8⟩ => ?_, fun _ _ _ _ _ _ _ _ _ _ _ _ _ _ h => h.elim⟩
    have e36 := (e3.trans e4).trans (e5.trans e6)
    obtain ⟨a, ws, g1, g2, g3, g4⟩ := S6.live n _ _ h6
    rw [e36.r _ _ hr2] at g1
    cases g1
    have g3' : H6 D0 = some (.lst ws) := g3
    refine ⟨ws, g3', by rw [← g4.length]; exact h7, items.length - (i + 1), by omega, F6, ρ6, _, _, e36, ?_, hlt, rfl, h8⟩
    exact S6.write (k' := .lst) h6 (e36.r _ _ hr2) (fun _ q => q) (g4.append (.cons R6 .nil))
  · have e : i = items.length := by omega
    subst e
    rw [List.drop_length] at h3
    obtain ⟨_, h4, h5⟩ := h3
    refine .inl ⟨q1 rfl, ?_⟩
    cases m with
    | true => exact P _ _ _ _ _ _ (e1.trans e23) S3 (.cell hr3) h5
    | false =>
      obtain ⟨F4, e4, r4, S4⟩ := S3.freeze h4 hr3
      exact P _ _ _ _ _ _ (e1.trans (e23.trans e4)) S4 r4 h5
section
variable {X : Cx} {W : WX} {elt tg iter : Expr} {it : DI} {a : DE} {pos : Pos} {k : Nat} {scope : Scope}
theorem pd_lp (m : Bool) (own : List (Str × Nat)) (i0 j0 k0 : Nat) (G : Good k X W) (hi : PID X W tg iter it) (hg : ∀ (s : Shared) (H : Hp) (C : Addr) (cl : List (Str × Addr)) (fp : List Addr), PG (X.blk s H scope (compEnvC scope cl C X.env) fp) tg (gvP X.K i0 j0 k0))
    (he : ∀ (s : Shared) (H : Hp) (C : Addr) (cl : List (Str × Addr)) (fp : List Addr), PED (X.blk s H scope (compEnvC scope cl C X.env) fp) WF elt a)
    (ok : blkC X.N X.env.scope scope own = true := by kernel_rfl) (hin : ∀ x ∈ [i0, j0, k0], x ∈ own.map (·.2) := by decide) (hs : ∀ x, foldedSetIterable iter X.env x = pure x := by intro _; rfl) :
    PED X W (.ListComp elt [⟨tg, iter, [], 0⟩] scope pos) (dLp m it i0 j0 k0 a (own.map (·.2))) := pe_weak (pe_lc G.calm G.nd hi (blkOk_by ok) hg (fun _ _ _ _ _ => pts_nilD) he hs) fun _ _ _ => lift_lp id id hin
end
end DL

/-! DP: plain steps over data. -/
namespace DL
open PySem PySem.Spec PyProof.Rows L2

section
variable {κ : Kap} {Q : DQ} {P : Bool → Prop} {i j : Int} {b c : Bool} {x y : Str} {m : Bool} {xs ys : List D}
theorem tr_non : withTruth .non κ P = P false := rfl
theorem tr_bl : withTruth (.bl b) κ P = P b := rfl
theorem tr_int : withTruth (.int i) κ P = P (i != 0) := rfl
theorem ad_int : fAdd m (.int i) (.int j) κ Q = Q (.int (i + j)) κ := rfl
theorem ad_str : fAdd m (.str x) (.str y) κ Q = (x.length + y.length ≤ sizeLine ∧ Q (.str (x ++ y)) κ) := rfl
theorem nw_t {k : Kd} : fNew true k xs κ Q = ∀ n, κ n = none → Q (.cell n) (kset κ n (.live k xs)) := rfl
theorem ad_lst : fAdd false (.node .lst xs) (.node .lst ys) κ Q = (xs.length + ys.length ≤ sizeLine ∧ Q (.node .lst (xs ++ ys)) κ) := rfl
theorem su_int : fSub (.int i) (.int j) κ Q = Q (.int (i - j)) κ := by unfold fSub fI; exact propext ⟨fun h => h.2, fun h => ⟨trivial, h⟩⟩
theorem mo_int : fMod (.int i) (.int j) κ Q = (j ≠ 0 ∧ Q (.int (i.fmod j)) κ) := rfl
theorem di_int : fDiv (.int i) (.int j) κ Q = (CDivD i j ∧ Q (.int (i.fdiv j)) κ) := rfl
theorem mu_int : fMulI (.int i) (.int j) κ Q = (CMulW i j ∧ Q (.int (i * j)) κ) := rfl
theorem po_int : fPow (.int i) (.int j) κ Q = (CPow i j ∧ Q (.int (i ^ j.toNat)) κ) := rfl
theorem ne_int : fNeg (.int i) κ Q = Q (.int (-i)) κ := rfl
theorem lt_int : fLtS (.int i) (.int j) κ Q = Q (.bl (decide (i < j))) κ := rfl
theorem le_int : fLeS (.int i) (.int j) κ Q = Q (.bl (decide (i ≤ j))) κ := rfl
theorem gt_int : fGtS (.int i) (.int j) κ Q = Q (.bl (decide (j < i))) κ := rfl
theorem ge_int : fGeS (.int i) (.int j) κ Q = Q (.bl (decide (j ≤ i))) κ := rfl
theorem lt_str : fLtS (.str x) (.str y) κ Q = Q (.bl (decide (x.cps.toList < y.cps.toList))) κ := rfl
theorem le_str : fLeS (.str x) (.str y) κ Q = Q (.bl (!decide (y.cps.toList < x.cps.toList))) κ := rfl
theorem ab_int : fAbs [.int i] κ Q = Q (.int (if i < 0 then -i else i)) κ := rfl
theorem mx_int : fMax2 [.int i, .int j] κ Q = Q (.int (if j > i then j else i)) κ := rfl
theorem mn_int : fMin2 [.int i, .int j] κ Q = Q (.int (if j < i then j else i)) κ := rfl
theorem ln_str : fLen [.str y] κ Q = (y.length ≤ sizeLine ∧ Q (.int (y.length : Nat)) κ) := rfl
theorem ln_lst : fLen [.node .lst xs] κ Q = Q (.int (xs.length : Nat)) κ := rfl
theorem ln_klst : fLen [.node .klst xs] κ Q = Q (.int (xs.length : Nat)) κ := rfl
theorem ln_tup : fLen [.node .tup xs] κ Q = Q (.int (xs.length : Nat)) κ := rfl
theorem st_int : fStr [.int i] κ Q = (i.natAbs.log2 < 1920 ∧ Q (.str (toString i)) κ) := rfl
theorem st_str : fStr [.str x] κ Q = Q (.str x) κ := rfl
theorem sl_str {u v : Option Int} : fSl m (.str x) u v κ Q = (x.length ≤ sizeLine ∧ Q (.str (cutS x u v)) κ) := rfl
theorem nw_f {k : Kd} : fNew false k xs κ Q = Q (.node k xs) κ := rfl
theorem ex_bl {b : Bool} {P : Bool → Prop} : (∃ k, D.bl b = D.bl k ∧ P k) = P b := propext ⟨fun ⟨k, h, q⟩ => by cases h; exact q, fun h => ⟨b, rfl, h⟩⟩
theorem ex_int {i : Int} {P : Int → Prop} : (∃ k, D.int i = D.int k ∧ P k) = P i := propext ⟨fun ⟨k, h, q⟩ => by cases h; exact q, fun h => ⟨i, rfl, h⟩⟩
theorem ex_str {x : Str} {P : Prop} : ((∃ y, D.str x = D.str y) ∧ P) = P := propext ⟨fun h => h.2, fun h => ⟨⟨x, rfl⟩, h⟩⟩
theorem ex_par {x y : D} {P : D → D → Prop} : (∃ u v, [x, y] = [u, v] ∧ P u v) = P x y := propext ⟨fun ⟨u, v, h, q⟩ => by cases h; exact q, fun h => ⟨x, y, rfl, h⟩⟩
theorem ex_tup {n : Nat} {P : List D → Prop} : (∃ zs, view (.node .tup xs) κ = some (.tup, zs) ∧ zs.length = n ∧ P zs) = (xs.length = n ∧ P xs) := propext ⟨fun ⟨zs, h, q⟩ => by cases h; exact q, fun h => ⟨xs, rfl, h⟩⟩
theorem ix_lst : fIx (.node .lst xs) (.int i) κ Q = ∃ d, atI xs i = some d ∧ Q d κ := rfl
theorem ix_klst : fIx (.node .klst xs) (.int i) κ Q = ∃ d, atI xs i = some d ∧ Q d κ := rfl
theorem ix_tup : fIx (.node .tup xs) (.int i) κ Q = ∃ d, atI xs i = some d ∧ Q d κ := rfl
theorem ix_str : fIx (.str x) (.int i) κ Q = (x.length ≤ sizeLine ∧ ∃ c, atI x.cps.toList i = some c ∧ Q (.str ⟨#[c]⟩) κ) := rfl
theorem vw_cell {n : Nat} {k : Kd} (h : κ n = some (.live k xs)) : view (.cell n) κ = some (k, xs) := by
  unfold view
  simp only [h]
theorem ix_cell {n : Nat} (h : κ n = some (.live .lst xs)) : fIx (.cell n) (.int i) κ Q = ∃ d, atI xs i = some d ∧ Q d κ := by
  show (match view (.cell n) κ with
    | some (.lst, xs) => ∃ d, atI xs i = some d ∧ Q d κ
    | some (.tup, xs) => ∃ d, atI xs i = some d ∧ Q d κ
    | some (.klst, xs) => ∃ d, atI xs i = some d ∧ Q d κ
    | _ => False) = _
  rw [vw_cell h]
theorem ix_kset {n : Nat} : fIx (.cell n) (.int i) (kset κ n (.live .lst xs)) Q = ∃ d, atI xs i = some d ∧ Q d (kset κ n (.live .lst xs)) := ix_cell kset_same
theorem ixN_nat {k n : Nat} (h : n < k) : ixN k (n : Int) = some n := by
  unfold ixN
  rw [if_pos (Int.natCast_nonneg n), if_pos (by omega), Int.toNat_natCast]
theorem at_nat {α : Type} {xs : List α} {n : Nat} {a : α} (h : xs[n]? = some a) : atI xs (n : Int) = some a := by
  unfold atI
  obtain ⟨h1, _⟩ := List.getElem?_eq_some_iff.mp h
  rw [ixN_nat h1]
  exact h
theorem at_0 {a : D} {l : List D} {P : D → Prop} : (∃ d, atI (a :: l) 0 = some d ∧ P d) = P a := propext ⟨fun ⟨d, h, q⟩ => by
    have : atI (a :: l) 0 = some a := at_nat (n := 0) rfl
    rw [this] at h; cases h; exact q, fun h => ⟨a, at_nat (n := 0) rfl, h⟩⟩
theorem at_1 {a b : D} {l : List D} {P : D → Prop} : (∃ d, atI (a :: b :: l) 1 = some d ∧ P d) = P b := propext ⟨fun ⟨d, h, q⟩ => by
    have : atI (a :: b :: l) 1 = some b := at_nat (n := 1) rfl
    rw [this] at h; cases h; exact q, fun h => ⟨b, at_nat (n := 1) rfl, h⟩⟩
theorem at_2 {a b c : D} {l : List D} {P : D → Prop} : (∃ d, atI (a :: b :: c :: l) 2 = some d ∧ P d) = P c := propext ⟨fun ⟨d, h, q⟩ => by
    have : atI (a :: b :: c :: l) 2 = some c := at_nat (n := 2) rfl
    rw [this] at h; cases h; exact q, fun h => ⟨c, at_nat (n := 2) rfl, h⟩⟩
theorem at_3 {a b c e : D} {l : List D} {P : D → Prop} : (∃ d, atI (a :: b :: c :: e :: l) 3 = some d ∧ P d) = P e := propext ⟨fun ⟨d, h, q⟩ => by
    have : atI (a :: b :: c :: e :: l) 3 = some e := at_nat (n := 3) rfl
    rw [this] at h; cases h; exact q, fun h => ⟨e, at_nat (n := 3) rfl, h⟩⟩
/-- the item of a list at a place below its length -/
theorem at_of {α : Type} {xs : List α} {i : Int} (h0 : 0 ≤ i) (h1 : i < xs.length) : ∃ d, atI xs i = some d ∧ d ∈ xs := by
  unfold atI ixN
  rw [if_pos h0, if_pos h1]
  have h2 : i.toNat < xs.length := by omega
  exact ⟨xs[i.toNat], List.getElem?_eq_getElem h2, List.getElem_mem h2⟩
theorem ix_mem {xs : List D} {i : Int} {κ : Kap} {Q : DQ} (h0 : 0 ≤ i) (h1 : i < xs.length) (h : ∀ d ∈ xs, Q d κ) : fIx (.node .lst xs) (.int i) κ Q := by
  obtain ⟨d, e, hd⟩ := at_of h0 h1
  exact ⟨d, e, h d hd⟩
theorem se_cell {n : Nat} {d : D} {T : Kap → Prop} (h : κ n = some (.live .lst xs)) : fSet (.cell n) (.int i) d κ T = ∃ m, ixN xs.length i = some m ∧ T (kset κ n (.live .lst (xs.set m d))) := by
  unfold fSet
  simp only [h]
theorem se_0 {n : Nat} {a d : D} {l : List D} {T : Kap → Prop} (h : κ n = some (.live .lst (a :: l))) : fSet (.cell n) (.int 0) d κ T = T (kset κ n (.live .lst (d :: l))) := by
  rw [se_cell h]
  exact propext ⟨fun ⟨m, h, q⟩ => by
    have : ixN (a :: l).length 0 = some 0 := by unfold ixN; simp
    rw [this] at h; cases h; exact q, fun h => ⟨0, by unfold ixN; simp, h⟩⟩
theorem se_2 {n : Nat} {a b c d : D} {l : List D} {T : Kap → Prop} (h : κ n = some (.live .lst (a :: b :: c :: l))) : fSet (.cell n) (.int 2) d κ T = T (kset κ n (.live .lst (a :: b :: d :: l))) := by
  rw [se_cell h]
  have e : ixN (a :: b :: c :: l).length 2 = some 2 := ixN_nat (n := 2) (by simp)
  exact propext ⟨fun ⟨m, h, q⟩ => by rw [e] at h; cases h; exact q, fun h => ⟨2, e, h⟩⟩
theorem se_3 {n : Nat} {a b c e d : D} {l : List D} {T : Kap → Prop} (h : κ n = some (.live .lst (a :: b :: c :: e :: l))) : fSet (.cell n) (.int 3) d κ T = T (kset κ n (.live .lst (a :: b :: c :: d :: l))) := by
  rw [se_cell h]
  have e : ixN (a :: b :: c :: e :: l).length 3 = some 3 := ixN_nat (n := 3) (by simp)
  exact propext ⟨fun ⟨m, h, q⟩ => by rw [e] at h; cases h; exact q, fun h => ⟨3, e, h⟩⟩
end

/-! equality of what can be told apart -/
theorem view_int {i : Int} {κ : Kap} : view (.int i) κ = none := rfl
theorem pd_int_is {κ : Kap} {i : Int} {p : PyData} (h : Pd κ (.int i) p) : p = .int i := by
  cases h with
  | int => rfl
  | lst h _ => cases h
  | tup h _ => cases h
  | dct h _ => cases h
theorem pd_str_is {κ : Kap} {x : Str} {p : PyData} (h : Pd κ (.str x) p) : p = .str x := by
  cases h with
  | str => rfl
  | lst h _ => cases h
  | tup h _ => cases h
  | dct h _ => cases h
theorem eq_int {κ : Kap} {Q : DQ} {i j : Int} : fEq (.int i) (.int j) κ Q = Q (.bl (decide (i = j))) κ := propext ⟨fun ⟨p, q, h1, h2, _, _, h⟩ => by
    cases pd_int_is h1
    cases pd_int_is h2
    exact h, fun h => ⟨.int i, .int j, .int i, .int j, rfl, rfl, h⟩⟩
theorem ne_int' {κ : Kap} {Q : DQ} {i j : Int} : fNe (.int i) (.int j) κ Q = Q (.bl (!decide (i = j))) κ := propext ⟨fun ⟨p, q, h1, h2, _, _, h⟩ => by
    cases pd_int_is h1
    cases pd_int_is h2
    exact h, fun h => ⟨.int i, .int j, .int i, .int j, rfl, rfl, h⟩⟩
theorem eq_dat {κ : Kap} {Q : DQ} {x y : D} {p q : PyData} (hx : pdata x = some p) (hy : pdata y = some q) (sx : SeqAt.shaped p = true) (sy : SeqAt.shaped q = true) (h : Q (.bl (PyData.eqv p q)) κ) : fEq x y κ Q := ⟨p, q, pd_of hx, pd_of hy, sx, sy, h⟩
theorem ne_dat {κ : Kap} {Q : DQ} {x y : D} {p q : PyData} (hx : pdata x = some p) (hy : pdata y = some q) (sx : SeqAt.shaped p = true) (sy : SeqAt.shaped q = true) (h : Q (.bl (!PyData.eqv p q)) κ) : fNe x y κ Q := ⟨p, q, pd_of hx, pd_of hy, sx, sy, h⟩

/-! side conditions -/
theorem log_lt {n k : Nat} (h : n < 2 ^ k) : n.log2 ≤ k := by
  by_cases h0 : n = 0
  · subst h0; simp
  · exact Nat.le_of_lt ((Nat.log2_lt h0).mpr h)
theorem cmul_of (a b : Nat) {i j : Int} (h : i.natAbs < 2 ^ a) (h' : j.natAbs < 2 ^ b) (hs : a + b < 1000000) : CMulW i j := by
  have h1 := log_lt h
  have h2 := log_lt h'
  unfold CMulW
  omega
theorem cmul64 {i j : Int} (h : i.natAbs < 2 ^ 64) (h' : j.natAbs < 2 ^ 64) : CMulW i j := cmul_of 64 64 h h' (by decide)
theorem cdiv_of (a : Nat) {i j : Int} (h0 : j ≠ 0) (h : j.natAbs < 2 ^ a) (hs : a < 9000) : CDivD i j := ⟨h0, Nat.lt_of_le_of_lt (log_lt h) hs⟩
theorem cdiv64 {i j : Int} (h0 : j ≠ 0) (h : j.natAbs < 2 ^ 64) : CDivD i j := cdiv_of 64 h0 h (by decide)
theorem fm_bd (x w : Int) (h : 0 < w) : 0 ≤ x.fmod w ∧ x.fmod w < w := ⟨Int.fmod_nonneg_of_pos x h, Int.fmod_lt_of_pos x h⟩
theorem len_cut (z : Str) (u v : Option Int) : (cutS z u v).length ≤ z.length := cutS_length z u v
theorem len_app (x y : Str) : (x ++ y).length = x.length + y.length := Array.size_append
theorem len_one (c : Nat) : (⟨#[c]⟩ : Str).length = 1 := rfl
theorem len_emp : (Str.ofString "").length = 0 := by decide +kernel
theorem len_join : ∀ ys : List Str, (Str.join "" ys).length = (ys.map (·.length)).sum
  | [] => rfl
  | [x] => by simp [Str.join]
  | x :: y :: r => by
    show (x ++ Str.ofString "" ++ Str.join "" (y :: r)).length = _
    rw [len_app, len_app, len_join (y :: r), len_emp]
    simp
theorem sum_ones : ∀ {ys : List Str}, (∀ y ∈ ys, y.length = 1) → (ys.map (·.length)).sum = ys.length
  | [], _ => rfl
  | y :: ys, h => by
    rw [List.map_cons, List.sum_cons, sum_ones fun z hz => h z (List.mem_cons_of_mem _ hz), h y List.mem_cons_self, List.length_cons]
    omega
theorem ipow_le {b : Int} (hb : 1 ≤ b) {i n : Nat} (h : i ≤ n) : b ^ i ≤ b ^ n := by
  induction n with
  | zero => rw [Nat.le_zero.mp h]; exact Int.le_refl _
  | succ n ih =>
    by_cases hi : i = n + 1
    · rw [hi]; exact Int.le_refl _
    · have h1 := ih (by omega)
      have h2 : 0 ≤ b ^ n := Int.pow_nonneg (by omega)
      rw [Int.pow_succ]
      exact Int.le_trans h1 (by have := Int.mul_le_mul_of_nonneg_left hb h2; simpa using this)
/-! isinstance, told -/
theorem isi_ty {tab : List KRow} {d : D} {n : String} {κ : Kap} {Q : DQ} {t : TyK} {b : Bool} (h1 : tyK d κ = some t) (h2 : ktOf tab t (.b n) = some b) : fIsi (ktOf tab) [d, .ty n] κ Q = Q (.bl b) κ := propext ⟨fun ⟨t', b', q1, q2, q⟩ => by
    rw [h1] at q1; cases q1; rw [h2] at q2; cases q2; exact q, fun h => ⟨t, b, h1, h2, h⟩⟩
theorem isi_in {tab : List KRow} {d : D} {n : String} {κ : Kap} {Q : DQ} (t : TyK) (b : Bool) (h1 : tyK d κ = some t) (h2 : ktOf tab t (.b n) = some b) (h : Q (.bl b) κ) : fIsi (ktOf tab) [d, .ty n] κ Q := ⟨t, b, h1, h2, h⟩
/-! repr of data -/
theorem repr_of {x : D} {p : PyData} {κ : Kap} {Q : DQ} (hp : pdata x = some p) (h1 : p.showable = true) (h2 : p.depth ≤ 60) (h3 : p.shown.length ≤ sizeLine) (h : Q (.str p.shown) κ) : fRepr [x] κ Q := ⟨p, pd_of hp, h1, h2, h3, h⟩
theorem bl3_shown : ∀ a b c : Bool, (PyData.list [.bool a, .bool b, .bool c]).depth ≤ 60 ∧ (PyData.list [.bool a, .bool b, .bool c]).shown.length ≤ sizeLine := by decide +kernel
theorem repr_bl3 {a b c : Bool} {κ : Kap} {Q : DQ} (h : Q (.str (PyData.list [.bool a, .bool b, .bool c]).shown) κ) : fRepr [.lst [.bl a, .bl b, .bl c]] κ Q :=
  repr_of rfl rfl (bl3_shown a b c).1 (bl3_shown a b c).2 h
theorem bi_inl {i : Nat} {d : D} {δ : DEnv} {κ : Kap} {P : DEnv → Prop} : (∃ δ1, bindT (.inl i) d δ κ = some δ1 ∧ P δ1) = P (δ.set i (some d)) := propext ⟨fun ⟨δ1, h, q⟩ => by cases h; exact q, fun h => ⟨_, rfl, h⟩⟩
theorem bi_inr {is : List Nat} {xs : List D} {δ δ' : DEnv} {κ : Kap} {P : DEnv → Prop} (h : bindL is xs δ = some δ') : (∃ δ1, bindT (.inr is) (.node .tup xs) δ κ = some δ1 ∧ P δ1) = P δ' := propext ⟨fun ⟨δ1, e, q⟩ => by
    have e' : bindL is xs δ = some δ1 := e
    rw [h] at e'; cases e'; exact q, fun q => ⟨δ', h, q⟩⟩
/-! loops -/
/-- a loop over items: what holds of the rest -/
theorem dLoop_ind {g : DG} {b : DS} {gd : Kap → Prop} {X : DX} {T : DEnds} (I : List D → DEnv → Kap → Prop) (h0 : ∀ δ κ, I [] δ κ → gd κ ∧ T.nx δ κ)
    (hs : ∀ d ds δ κ (L : DEnv → Kap → Prop), (∀ δ κ, I ds δ κ → L δ κ) → I (d :: ds) δ κ → gd κ ∧ g d δ κ X fun δ1 κ1 => b δ1 κ1 X { nx := L, ct := L, bk := T.nx, rt := T.rt }) : ∀ ds δ κ, I ds δ κ → dLoop g b gd X T ds δ κ
  | [], δ, κ, h => h0 δ κ h
  | d :: ds, δ, κ, h => hs d ds δ κ _ (dLoop_ind I h0 hs ds) h
/-- a loop over items: what holds behind i of them -/
theorem dLoop_ix {g : DG} {b : DS} {gd : Kap → Prop} {X : DX} {T : DEnds} {items : List D} (I : Nat → DEnv → Kap → Prop) (h0 : ∀ δ κ, I items.length δ κ → gd κ ∧ T.nx δ κ)
    (hs : ∀ i d δ κ (L : DEnv → Kap → Prop), items[i]? = some d → (∀ δ κ, I (i + 1) δ κ → L δ κ) → I i δ κ → gd κ ∧ g d δ κ X fun δ1 κ1 => b δ1 κ1 X { nx := L, ct := L, bk := T.nx, rt := T.rt }) {δ : DEnv} {κ : Kap} (h : I 0 δ κ) : dLoop g b gd X T items δ κ := by
  refine dLoop_ind (fun ds δ κ => ∃ i, ds = items.drop i ∧ i ≤ items.length ∧ I i δ κ) ?_ ?_ items δ κ ⟨0, rfl, Nat.zero_le _, h⟩
  · rintro δ κ ⟨i, e, hi, h⟩
    have : i = items.length := by
      have := congrArg List.length e
      simp at this
      omega
    subst this
    exact h0 δ κ h
  · rintro d ds δ κ L hL ⟨i, e, hi, h⟩
    have hlt : i < items.length := by
      have := congrArg List.length e
      simp at this
      omega
    rw [List.drop_eq_getElem_cons hlt] at e
    injection e with e1 e2
    exact hs i d δ κ L (by rw [e1]; exact List.getElem?_eq_getElem hlt) (fun δ κ q => hL δ κ ⟨i + 1, e2, hlt, q⟩) h
theorem lcLoop_ind {n : Nat} {t : TN} {tt : DT} {e : DE} {gd : Kap → Prop} {vs : List Nat} {δ : DEnv} {fin : List D → Kap → Prop} (I : List D → List D → Kap → Prop) (h0 : ∀ acc κ, I [] acc κ → gd κ ∧ fin acc κ)
    (hs : ∀ d ds acc κ (L : List D → Kap → Prop), (∀ acc κ, I ds acc κ → L acc κ) → I (d :: ds) acc κ → gd κ ∧ ∃ δ1, bindT t d (dwipe δ vs) κ = some δ1 ∧ tt δ1 κ XF fun b κ2 => if b = true then e δ1 κ2 XF fun y κ3 => κ3 n = some (.live .lst acc) ∧ acc.length < sizeLine ∧ L (acc ++ [y]) (kset κ3 n (.live .lst (acc ++ [y])))
      else L acc κ2) : ∀ ds acc κ, I ds acc κ → lcLoop n t tt e gd vs δ fin ds acc κ
  | [], acc, κ, h => h0 acc κ h
  | d :: ds, acc, κ, h => hs d ds acc κ _ (lcLoop_ind I h0 hs ds) h
theorem lcLoop_ix {n : Nat} {t : TN} {tt : DT} {e : DE} {gd : Kap → Prop} {vs : List Nat} {δ : DEnv} {fin : List D → Kap → Prop} {items : List D} (I : Nat → List D → Kap → Prop) (h0 : ∀ acc κ, I items.length acc κ → gd κ ∧ fin acc κ)
    (hs : ∀ i d acc κ (L : List D → Kap → Prop), items[i]? = some d → (∀ acc κ, I (i + 1) acc κ → L acc κ) → I i acc κ → gd κ ∧ ∃ δ1, bindT t d (dwipe δ vs) κ = some δ1 ∧ tt δ1 κ XF fun b κ2 => if b = true then e δ1 κ2 XF fun y κ3 => κ3 n = some (.live .lst acc) ∧ acc.length < sizeLine ∧ L (acc ++ [y]) (kset κ3 n (.live .lst (acc ++ [y])))
      else L acc κ2) {acc : List D} {κ : Kap} (h : I 0 acc κ) : lcLoop n t tt e gd vs δ fin items acc κ := by
  refine lcLoop_ind (fun ds acc κ => ∃ i, ds = items.drop i ∧ i ≤ items.length ∧ I i acc κ) ?_ ?_ items acc κ ⟨0, rfl, Nat.zero_le _, h⟩
  · rintro δ κ ⟨i, e, hi, h⟩
    have : i = items.length := by
      have := congrArg List.length e
      simp at this
      omega
    subst this
    exact h0 δ κ h
  · rintro d ds δ κ L hL ⟨i, e, hi, h⟩
    have hlt : i < items.length := by
      have := congrArg List.length e
      simp at this
      omega
    rw [List.drop_eq_getElem_cons hlt] at e
    injection e with e1 e2
    exact hs i d δ κ L (by rw [e1]; exact List.getElem?_eq_getElem hlt) (fun δ κ q => hL δ κ ⟨i + 1, e2, hlt, q⟩) h
theorem rangeD_len {lo : Int} {n : Nat} : (rangeD lo n).length = n := by unfold rangeD; simp
theorem rangeD_get {lo : Int} {n i : Nat} {d : D} (h : (rangeD lo n)[i]? = some d) : i < n ∧ d = .int (lo + (i : Nat)) := by
  unfold rangeD at h
  rw [List.getElem?_map, Option.map_eq_some_iff] at h
  obtain ⟨j, hj, rfl⟩ := h
  obtain ⟨h1, h2⟩ := List.getElem?_eq_some_iff.mp hj
  rw [List.length_range] at h1
  rw [List.getElem_range] at h2
  subst h2
  exact ⟨h1, rfl⟩

/-! a box that is drawn from -/
/-- the box at b: three whole numbers, at most m drawn so far -/
def Bx (b m : Nat) (κ : Kap) : Prop := ∃ x y z : Int, κ b = some (.live .lst [.int x, .int y, .int z]) ∧ 0 ≤ y ∧ y < 2 ^ 31 ∧ 0 ≤ z ∧ z ≤ (m : Int)
/-- all cells but b's stay -/
def Fr (b : Nat) (κ κ' : Kap) : Prop := ∀ n c, n ≠ b → κ n = some c → κ' n = some c
theorem Fr.refl {b : Nat} {κ : Kap} : Fr b κ κ := fun _ _ _ h => h
theorem Fr.trans {b : Nat} {κ κ1 κ2 : Kap} (h : Fr b κ κ1) (g : Fr b κ1 κ2) : Fr b κ κ2 := fun n c hn e => g n c hn (h n c hn e)
theorem Fr.set {b n : Nat} {κ : Kap} {c : Cell} (h : κ n = none) : Fr b κ (kset κ n c) := fun m d hm e => by rw [kset_ne (kne e h)]; exact e
theorem Fr.put {b n : Nat} {κ κ' : Kap} {c : Cell} (f : Fr b κ κ') (h : κ n = none) : Fr b κ (kset κ' n c) := fun m d hm e => by rw [kset_ne (kne e h)]; exact f m d hm e
theorem Fr.box {b : Nat} {κ : Kap} {c : Cell} : Fr b κ (kset κ b c) := fun m d hm e => by rw [kset_ne hm]; exact e
theorem Bx.mono {b m m' : Nat} {κ : Kap} (h : Bx b m κ) (hm : m ≤ m') : Bx b m' κ := let ⟨x, y, z, h1, h2, h3, h4, h5⟩ := h; ⟨x, y, z, h1, h2, h3, h4, by omega⟩
theorem Bx.is {b m : Nat} {κ : Kap} (h : Bx b m κ) : ∃ k xs, κ b = some (.live k xs) := let ⟨_, _, _, h1, _⟩ := h; ⟨_, _, h1⟩
theorem Bx.ne {b m n : Nat} {κ : Kap} (h : Bx b m κ) (hn : κ n = none) : n ≠ b := fun e => by obtain ⟨_, _, q⟩ := h.is; rw [e] at hn; rw [hn] at q; cases q
theorem Bx.set {b m n : Nat} {κ : Kap} {c : Cell} (h : Bx b m κ) (hn : n ≠ b) : Bx b m (kset κ n c) := let ⟨x, y, z, h1, h2⟩ := h; ⟨x, y, z, by rw [kset_ne hn.symm]; exact h1, h2⟩
end DL

/-! DS: one step for each reading. -/
namespace DL
open PySem PySem.Spec L2
def rQ (QI : List D → (Kap → Prop) → Kap → Prop) (xs : List D) (κ : Kap) : Prop := match xs with
  | [.int j] => -(2 ^ 62) ≤ j ∧ j < 2 ^ 62 ∧ QI (rangeD 0 j.toNat) gTrue κ
  | _ => False
def sQ (QI : List D → (Kap → Prop) → Kap → Prop) (d : D) (κ : Kap) : Prop := match d with
  | .str x => QI (charsD x) gTrue κ
  | .cell n => match κ n with
    | some (.live .lst xs) => QI xs (fun κ => κ n = some (.live .lst xs)) κ
    | _ => False
  | d => match view d κ with
    | some (.lst, xs) => QI xs gTrue κ
    | some (.klst, xs) => QI xs gTrue κ
    | some (.tup, xs) => QI xs gTrue κ
    | _ => False
section
variable {δ : DEnv} {κ : Kap} {X : DX} {Q : DQ} {a b c : DE} {as r : DA} {t u : DT} {s s' : DS} {d x y : D} {f g : D2} {n : DEnv → Kap → Prop} {rt : DQ} {bk ct : DEnv → Kap → Prop} {T : DEnds} {QL : List D → Kap → Prop} {QB : Bool → Kap → Prop} {QG : DEnv → Kap → Prop} {xs ys : List D} {A B : Prop} {i j : Int} {z v : Str} {m k : Bool}
theorem s_sp {n m : Nat} {b : DS} {ds : List D} {X : Str → List D → Kap → Prop} (h : ds.length = m) (q : b (startD n ds) κ (fun _ c fs κ' => X c fs κ') ⟨fun _ κ' => Q .non κ', Q, fun _ _ => False, fun _ _ => False⟩) : spOf n m b ds κ X Q := ⟨h, q⟩
theorem s_seq (h : s δ κ X ⟨fun δ1 κ1 => s' δ1 κ1 X ⟨n, rt, bk, ct⟩, rt, bk, ct⟩) : sSeq s s' δ κ X ⟨n, rt, bk, ct⟩ := h
theorem s_nil (h : n δ κ) : sNil δ κ X ⟨n, rt, bk, ct⟩ := h
theorem s_asg {g : DG} (h : a δ κ X fun d κ1 => g d δ κ1 X n) : sAsg a g δ κ X ⟨n, rt, bk, ct⟩ := h
theorem s_exp (h : a δ κ X fun _ κ1 => n δ κ1) : sExp a δ κ X ⟨n, rt, bk, ct⟩ := h
theorem s_ret (h : a δ κ X rt) : sRet a δ κ X ⟨n, rt, bk, ct⟩ := h
theorem s_retN (h : rt .non κ) : sRetN δ κ X ⟨n, rt, bk, ct⟩ := h
theorem s_brk (h : bk δ κ) : sBrk δ κ X ⟨n, rt, bk, ct⟩ := h
theorem s_con (h : ct δ κ) : sCon δ κ X ⟨n, rt, bk, ct⟩ := h
theorem s_if (h : t δ κ X fun k κ1 => if k = true then s δ κ1 X T else s' δ κ1 X T) : sIf t s s' δ κ X T := h
theorem s_par {i j : Nat} (h : as δ κ X fun ds κ1 => ∃ x y, ds = [x, y] ∧ n ((δ.set i (some x)).set j (some y)) κ1) : sPar i j as δ κ X ⟨n, rt, bk, ct⟩ := h
theorem s_for {it : DI} {g : DG} (h : it δ κ X fun items gd κ1 => dLoop g s gd X T items δ κ1) : sFor it g s δ κ X T := h
theorem x_par {P : D → D → Prop} (h : P x y) : ∃ u v, [x, y] = [u, v] ∧ P u v := ⟨x, y, rfl, h⟩
theorem e_var {i : Nat} (e : δ[i]? = some (some d)) (h : Q d κ) : dVar i δ κ X Q := by unfold dVar; rw [e]; exact h
theorem e_c (h : Q d κ) : dC d δ κ X Q := h
theorem e_op (h : a δ κ X fun x κ1 => b δ κ1 X fun y κ2 => f x y κ2 Q) : dOp f a b δ κ X Q := h
theorem e_un {f : D1} (h : a δ κ X fun x κ1 => f x κ1 Q) : dUn f a δ κ X Q := h
theorem e_nil (h : QL [] κ) : dNil δ κ X QL := h
theorem e_cons (h : a δ κ X fun x κ1 => r δ κ1 X fun xs κ2 => QL (x :: xs) κ2) : dCons a r δ κ X QL := h
theorem e_B {f : DN} (h : as δ κ X fun xs κ1 => f xs κ1 Q) : dB f as δ κ X Q := h
theorem e_tup (h : as δ κ X fun xs κ1 => xs.length ≤ sizeLine ∧ Q (.node .tup xs) κ1) : dTup as δ κ X Q := h
theorem e_lst (h : as δ κ X fun xs κ1 => xs.length ≤ sizeLine ∧ fNew m .lst xs κ1 Q) : dLst m as δ κ X Q := h
theorem e_dct0 (h : fNew m (.dct []) [] κ Q) : dDct0 m δ κ X Q := h
theorem e_sz (h1 : xs.length ≤ sizeLine) (h : A) : xs.length ≤ sizeLine ∧ A := ⟨h1, h⟩
theorem cpow_of {i j : Int} (h0 : 0 ≤ j) (h1 : j ≤ 1000000) (h2 : i.natAbs < 2 ^ 64) : CPow i j := ⟨h0, h1, h2⟩
theorem e_nwf {k : Kd} (h : Q (.node k xs) κ) : fNew false k xs κ Q := h
theorem e_nwt {k : Kd} (h : ∀ n, κ n = none → Q (.cell n) (kset κ n (.live k xs))) : fNew true k xs κ Q := h
theorem e_and (h : a δ κ X fun x κ1 => withTruth x κ1 fun t => if t = true then b δ κ1 X Q else Q x κ1) : dAnd a b δ κ X Q := h
theorem e_or (h : a δ κ X fun x κ1 => withTruth x κ1 fun t => if t = true then Q x κ1 else b δ κ1 X Q) : dOr a b δ κ X Q := h
theorem e_not (h : a δ κ X fun x κ1 => withTruth x κ1 fun t => Q (.bl (!t)) κ1) : dNot a δ κ X Q := h
theorem e_if (h : t δ κ X fun k κ1 => if k = true then a δ κ1 X Q else b δ κ1 X Q) : dIf t a b δ κ X Q := h
theorem e_chain (h : a δ κ X fun x κ1 => b δ κ1 X fun y κ2 => f x y κ2 fun z κ3 => ∃ k, z = .bl k ∧ if k = true then c δ κ3 X (fun w κ4 => g y w κ4 Q) else Q (.bl false) κ3) : dChain f g a b c δ κ X Q := h
theorem e_sl {lo hi : DO} (h : a δ κ X fun x κ1 => lo δ κ1 X fun i κ2 => hi δ κ2 X fun j κ3 => fSl m x i j κ3 Q) : dSl m a lo hi δ κ X Q := h
theorem e_no {QO : Option Int → Kap → Prop} (h : QO none κ) : dNo δ κ X QO := h
theorem e_part {QO : Option Int → Kap → Prop} (h : a δ κ X fun x κ1 => ∃ i, x = .int i ∧ QO (some i) κ1) : dPart a δ κ X QO := h
theorem e_call {sp : DSp} (h : as δ κ X fun xs κ1 => sp xs κ1 (X δ) Q) : dCall sp [] as δ κ X Q := by
  unfold dCall
  simp only [List.append_nil]
  exact h
theorem e_callD {sp : DSp} {dvs : List D} (h : as δ κ X fun xs κ1 => sp (xs ++ dvs) κ1 (X δ) Q) : dCall sp dvs as δ κ X Q := h
theorem e_m1 {f : D → D → Kap → DQ → Prop} (h : a δ κ X fun x κ1 => (∃ y, x = .str y) ∧ b δ κ1 X fun z κ2 => f x z κ2 Q) : dM1 f a b δ κ X Q := h
theorem e_m0 {f : D → Kap → DQ → Prop} (h : a δ κ X fun x κ1 => (∃ y, x = .str y) ∧ f x κ1 Q) : dM0 f a δ κ X Q := h
theorem e_mk {c : Str} {ns : List Str} (h : as δ κ X fun xs κ1 => xs.length = ns.length ∧ xs.length ≤ 100 ∧ Q (.node (.exc c ns) xs.reverse) κ1) : dMk c ns as δ κ X Q := h
theorem e_lc {it : DI} {t : TN} {tt : DT} {e : DE} {vs : List Nat} (h : it δ κ X fun items gd κ1 => ∀ n, κ1 n = none →
  lcLoop n t tt e gd vs δ (fun acc κ' => κ' n = some (.live .lst acc) ∧ Q (.node .lst acc) (kset κ' n .dead)) items [] (kset κ1 n (.live .lst []))) : dLc false it t tt e vs δ κ X Q := h
theorem e_lcm {it : DI} {t : TN} {tt : DT} {e : DE} {vs : List Nat} (h : it δ κ X fun items gd κ1 => ∀ n, κ1 n = none →
  lcLoop n t tt e gd vs δ (fun acc κ' => κ' n = some (.live .lst acc) ∧ Q (.cell n) κ') items [] (kset κ1 n (.live .lst []))) : dLc true it t tt e vs δ κ X Q := h
theorem t_yes (h : QB true κ) : tYesD δ κ X QB := h
theorem t_tru (h : a δ κ X fun x κ1 => withTruth x κ1 fun t => QB t κ1) : tTru a δ κ X QB := h
theorem t_bl (h : a δ κ X fun x κ1 => ∃ k, x = .bl k ∧ QB k κ1) : tBl a δ κ X QB := h
theorem t_and (h : t δ κ X fun k κ1 => if k = true then u δ κ1 X QB else QB false κ1) : tAndD t u δ κ X QB := h
theorem t_or (h : t δ κ X fun k κ1 => if k = true then QB true κ1 else u δ κ1 X QB) : tOrD t u δ κ X QB := h
theorem t_not (h : t δ κ X fun k κ1 => QB (!k) κ1) : tNotD t δ κ X QB := h
theorem w_bl {P : Bool → Prop} (h : P k) : withTruth (.bl k) κ P := h
theorem w_non {P : Bool → Prop} (h : P false) : withTruth .non κ P := h
theorem w_int {P : Bool → Prop} (h : P (i != 0)) : withTruth (.int i) κ P := h
theorem x_bl {P : Bool → Prop} (h : P k) : ∃ q, D.bl k = D.bl q ∧ P q := ⟨k, rfl, h⟩
theorem x_int {P : Int → Prop} (h : P i) : ∃ q, D.int i = D.int q ∧ P q := ⟨i, rfl, h⟩
theorem x_str (h : A) : (∃ q, D.str z = D.str q) ∧ A := ⟨⟨z, rfl⟩, h⟩
theorem i_T (h : A) : if true = true then A else B := by rw [if_pos rfl]; exact h
theorem i_F (h : B) : if false = true then A else B := by rw [if_neg (by decide)]; exact h
theorem i_not (h : if k = true then B else A) : if (!k) = true then A else B := by cases k <;> exact h
theorem i_dT {p : Prop} [Decidable p] (hp : p) (h : A) : if decide p = true then A else B := by rw [if_pos (decide_eq_true hp)]; exact h
theorem i_dF {p : Prop} [Decidable p] (hp : ¬p) (h : B) : if decide p = true then A else B := by rw [if_neg (by rw [decide_eq_false hp]; decide)]; exact h
theorem i_d {p : Prop} [Decidable p] (h : p → A) (h' : ¬p → B) : if decide p = true then A else B := by
  by_cases hp : p
  · exact i_dT hp (h hp)
  · exact i_dF hp (h' hp)
theorem g_nil (h : QG δ κ) : gNilD [] δ κ X QG := ⟨rfl, h⟩
theorem g_cons {g : DG} {r : DGs} (h : g d δ κ X fun δ1 κ1 => r xs δ1 κ1 X QG) : gConsD g r (d :: xs) δ κ X QG := h
theorem g_tup {N : Nat} {g : DGs} (hl : xs.length = N) (h : g xs δ κ X QG) : gTupD N g (.node .tup xs) δ κ X QG := ⟨xs, rfl, hl, h⟩
theorem g_sub {f : D → D → D → Kap → (Kap → Prop) → Prop} (h : a δ κ X fun x κ1 => b δ κ1 X fun y κ2 => f x y d κ2 fun κ3 => QG δ κ3) : gSubD a b f d δ κ X QG := h
theorem l_1 (h : -(2 ^ 62) ≤ j ∧ j < 2 ^ 62 ∧ A) : -(2 ^ 62) ≤ j ∧ j < 2 ^ 62 ∧ A := h
theorem s_while (I : Nat → DEnv → Kap → Prop) (h0 : ∃ m, I m δ κ) (h : ∀ m δ κ (L : DEnv → Kap → Prop), (∀ m' δ κ, m' < m → I m' δ κ → L δ κ) → I m δ κ → t δ κ X fun k κ1 => if k = true then s δ κ1 X ⟨L, rt, n, L⟩ else n δ κ1) : sWhile t s δ κ X ⟨n, rt, bk, ct⟩ :=
  ⟨I, h0, fun m δ κ hI => h m δ κ _ (fun m' δ κ hm hI => ⟨m', hm, hI⟩) hI⟩
theorem dl_ix {g : DG} {gd : Kap → Prop} {items : List D} (I : Nat → DEnv → Kap → Prop) (h0 : ∀ δ κ, I items.length δ κ → gd κ ∧ n δ κ)
    (hs : ∀ i d δ κ (L : DEnv → Kap → Prop), items[i]? = some d → (∀ δ κ, I (i + 1) δ κ → L δ κ) → I i δ κ → gd κ ∧ g d δ κ X fun δ1 κ1 => s δ1 κ1 X ⟨L, rt, n, L⟩) (h : I 0 δ κ) : dLoop g s gd X ⟨n, rt, bk, ct⟩ items δ κ := dLoop_ix I h0 hs h
theorem e_disp {prs : List (DE × DE)} (h : ∀ n, κ n = none → dPairs prs δ (kset κ n (.live (.dct []) [])) X fun ps κ1 => κ1 n = some (.live (.dct []) []) ∧ ∃ ks : List Key, ps.map (·.1) = ks.map keyD ∧ ks.Nodup ∧ ks.length ≤ 15 ∧ Q (.node (.dct ks) (ps.map (·.2))) (kset κ1 n .dead)) : dDisp false prs δ κ X Q := h
theorem p_nil {QP : List (D × D) → Kap → Prop} (h : QP [] κ) : dPairs [] δ κ X QP := h
theorem p_cons {l : List (DE × DE)} {QP : List (D × D) → Kap → Prop} (h : a δ κ X fun x κ1 => b δ κ1 X fun y κ2 => dPairs l δ κ2 X fun ps κ3 => QP ((x, y) :: ps) κ3) : dPairs ((a, b) :: l) δ κ X QP := h
theorem r_1 {QI : List D → (Kap → Prop) → Kap → Prop} (h : as δ κ X (rQ QI)) : iRange1 as δ κ X QI := h
theorem r_q {QI : List D → (Kap → Prop) → Kap → Prop} (h1 : -(2 ^ 62) ≤ j) (h2 : j < 2 ^ 62) (h : QI (rangeD 0 j.toNat) gTrue κ) : rQ QI [.int j] κ := ⟨h1, h2, h⟩
theorem q_seq {QI : List D → (Kap → Prop) → Kap → Prop} (h : a δ κ X (sQ QI)) : iSeq a δ κ X QI := h
theorem q_S {QI : List D → (Kap → Prop) → Kap → Prop} (h : QI (charsD z) gTrue κ) : sQ QI (.str z) κ := h
theorem q_L {QI : List D → (Kap → Prop) → Kap → Prop} (h : QI xs gTrue κ) : sQ QI (.node .lst xs) κ := h
theorem q_K {QI : List D → (Kap → Prop) → Kap → Prop} (h : QI xs gTrue κ) : sQ QI (.node .klst xs) κ := h
theorem q_T {QI : List D → (Kap → Prop) → Kap → Prop} (h : QI xs gTrue κ) : sQ QI (.node .tup xs) κ := h
/-! operators -/
theorem f_adI (h : Q (.int (i + j)) κ) : fAdd m (.int i) (.int j) κ Q := h
theorem f_adS (h1 : z.length + v.length ≤ sizeLine) (h : Q (.str (z ++ v)) κ) : fAdd m (.str z) (.str v) κ Q := ⟨h1, h⟩
theorem f_adL (h1 : xs.length + ys.length ≤ sizeLine) (h : Q (.node .lst (xs ++ ys)) κ) : fAdd false (.node .lst xs) (.node .lst ys) κ Q := ⟨h1, h⟩
theorem f_sub (h : Q (.int (i - j)) κ) : fSub (.int i) (.int j) κ Q := ⟨trivial, h⟩
theorem f_mod (h1 : j ≠ 0) (h : Q (.int (i.fmod j)) κ) : fMod (.int i) (.int j) κ Q := ⟨h1, h⟩
theorem f_div (h1 : CDivD i j) (h : Q (.int (i.fdiv j)) κ) : fDiv (.int i) (.int j) κ Q := ⟨h1, h⟩
theorem f_mul (h1 : CMulW i j) (h : Q (.int (i * j)) κ) : fMulI (.int i) (.int j) κ Q := ⟨h1, h⟩
theorem f_pow (h1 : CPow i j) (h : Q (.int (i ^ j.toNat)) κ) : fPow (.int i) (.int j) κ Q := ⟨h1, h⟩
theorem f_neg (h : Q (.int (-i)) κ) : fNeg (.int i) κ Q := h
theorem f_ltI (h : Q (.bl (decide (i < j))) κ) : fLtS (.int i) (.int j) κ Q := h
theorem f_leI (h : Q (.bl (decide (i ≤ j))) κ) : fLeS (.int i) (.int j) κ Q := h
theorem f_gtI (h : Q (.bl (decide (j < i))) κ) : fGtS (.int i) (.int j) κ Q := h
theorem f_geI (h : Q (.bl (decide (j ≤ i))) κ) : fGeS (.int i) (.int j) κ Q := h
theorem f_leS (h : Q (.bl (!decide (v.cps.toList < z.cps.toList))) κ) : fLeS (.str z) (.str v) κ Q := h
theorem f_ltS (h : Q (.bl (decide (z.cps.toList < v.cps.toList))) κ) : fLtS (.str z) (.str v) κ Q := h
theorem f_eqI (h : Q (.bl (decide (i = j))) κ) : fEq (.int i) (.int j) κ Q := by rw [eq_int]; exact h
theorem f_neI (h : Q (.bl (!decide (i = j))) κ) : fNe (.int i) (.int j) κ Q := by rw [ne_int']; exact h
theorem f_eqS (h1 : SeqAt.shaped (.str z) = true) (h2 : SeqAt.shaped (.str v) = true) (h : Q (.bl (z == v)) κ) : fEq (.str z) (.str v) κ Q := eq_dat rfl rfl h1 h2 h
theorem f_neS (h1 : SeqAt.shaped (.str z) = true) (h2 : SeqAt.shaped (.str v) = true) (h : Q (.bl (!(z == v))) κ) : fNe (.str z) (.str v) κ Q := ne_dat rfl rfl h1 h2 h
theorem f_inS (h : Q (.bl (strIn z v)) κ) : fIn false (.str z) (.str v) κ Q := h
theorem f_abs (h : Q (.int (if i < 0 then -i else i)) κ) : fAbs [.int i] κ Q := h
theorem f_max (h : Q (.int (if j > i then j else i)) κ) : fMax2 [.int i, .int j] κ Q := h
theorem f_min (h : Q (.int (if j < i then j else i)) κ) : fMin2 [.int i, .int j] κ Q := h
theorem f_lnS (h1 : z.length ≤ sizeLine) (h : Q (.int (z.length : Nat)) κ) : fLen [.str z] κ Q := ⟨h1, h⟩
theorem f_lnL (h : Q (.int (xs.length : Nat)) κ) : fLen [.node .lst xs] κ Q := h
theorem f_lnK (h : Q (.int (xs.length : Nat)) κ) : fLen [.node .klst xs] κ Q := h
theorem f_lnT (h : Q (.int (xs.length : Nat)) κ) : fLen [.node .tup xs] κ Q := h
theorem f_stI (h1 : i.natAbs.log2 < 1920) (h : Q (.str (toString i)) κ) : fStr [.int i] κ Q := ⟨h1, h⟩
theorem f_slS {p q : Option Int} (h1 : z.length ≤ sizeLine) (h : Q (.str (cutS z p q)) κ) : fSl m (.str z) p q κ Q := ⟨h1, h⟩
theorem f_ix0 (h : Q d κ) : fIx (.node .lst (d :: xs)) (.int 0) κ Q := by rw [ix_lst, at_0]; exact h
theorem f_ix1 (h : Q d κ) : fIx (.node .lst (x :: d :: xs)) (.int 1) κ Q := by rw [ix_lst, at_1]; exact h
theorem f_ix2 (h : Q d κ) : fIx (.node .lst (x :: y :: d :: xs)) (.int 2) κ Q := by rw [ix_lst, at_2]; exact h
theorem f_ic0 {N : Nat} (e : κ N = some (.live .lst (d :: xs))) (h : Q d κ) : fIx (.cell N) (.int 0) κ Q := by rw [ix_cell e, at_0]; exact h
theorem f_ic1 {N : Nat} (e : κ N = some (.live .lst (x :: d :: xs))) (h : Q d κ) : fIx (.cell N) (.int 1) κ Q := by rw [ix_cell e, at_1]; exact h
theorem f_ic2 {N : Nat} (e : κ N = some (.live .lst (x :: y :: d :: xs))) (h : Q d κ) : fIx (.cell N) (.int 2) κ Q := by rw [ix_cell e, at_2]; exact h
theorem f_ik0 {N : Nat} (h : Q d (kset κ N (.live .lst (d :: xs)))) : fIx (.cell N) (.int 0) (kset κ N (.live .lst (d :: xs))) Q := f_ic0 kset_same h
theorem f_ik1 {N : Nat} (h : Q d (kset κ N (.live .lst (x :: d :: xs)))) : fIx (.cell N) (.int 1) (kset κ N (.live .lst (x :: d :: xs))) Q := f_ic1 kset_same h
theorem f_ik2 {N : Nat} (h : Q d (kset κ N (.live .lst (x :: y :: d :: xs)))) : fIx (.cell N) (.int 2) (kset κ N (.live .lst (x :: y :: d :: xs))) Q := f_ic2 kset_same h
theorem f_se0 {N : Nat} {P : Kap → Prop} (e : κ N = some (.live .lst (x :: xs))) (h : P (kset κ N (.live .lst (d :: xs)))) : fSet (.cell N) (.int 0) d κ P := by rw [se_0 e]; exact h
theorem f_se2 {N : Nat} {v w : D} {P : Kap → Prop} (e : κ N = some (.live .lst (v :: w :: x :: xs))) (h : P (kset κ N (.live .lst (v :: w :: d :: xs)))) : fSet (.cell N) (.int 2) d κ P := by rw [se_2 e]; exact h
theorem f_it0 (h : Q d κ) : fIx (.node .tup (d :: xs)) (.int 0) κ Q := by rw [ix_tup, at_0]; exact h
theorem f_it1 (h : Q d κ) : fIx (.node .tup (x :: d :: xs)) (.int 1) κ Q := by rw [ix_tup, at_1]; exact h
theorem f_it2 (h : Q d κ) : fIx (.node .tup (x :: y :: d :: xs)) (.int 2) κ Q := by rw [ix_tup, at_2]; exact h
theorem g_n0 {e0 : Option D} {l : DEnv} (h : QG (some d :: l) κ) : gN 0 d (e0 :: l) κ X QG := h
theorem g_n1 {e0 e1 : Option D} {l : DEnv} (h : QG (e0 :: some d :: l) κ) : gN 1 d (e0 :: e1 :: l) κ X QG := h
theorem g_n2 {e0 e1 e2 : Option D} {l : DEnv} (h : QG (e0 :: e1 :: some d :: l) κ) : gN 2 d (e0 :: e1 :: e2 :: l) κ X QG := h
theorem g_n3 {e0 e1 e2 e3 : Option D} {l : DEnv} (h : QG (e0 :: e1 :: e2 :: some d :: l) κ) : gN 3 d (e0 :: e1 :: e2 :: e3 :: l) κ X QG := h
theorem g_n4 {e0 e1 e2 e3 e4 : Option D} {l : DEnv} (h : QG (e0 :: e1 :: e2 :: e3 :: some d :: l) κ) : gN 4 d (e0 :: e1 :: e2 :: e3 :: e4 :: l) κ X QG := h
theorem g_n5 {e0 e1 e2 e3 e4 e5 : Option D} {l : DEnv} (h : QG (e0 :: e1 :: e2 :: e3 :: e4 :: some d :: l) κ) : gN 5 d (e0 :: e1 :: e2 :: e3 :: e4 :: e5 :: l) κ X QG := h
theorem g_n6 {e0 e1 e2 e3 e4 e5 e6 : Option D} {l : DEnv} (h : QG (e0 :: e1 :: e2 :: e3 :: e4 :: e5 :: some d :: l) κ) : gN 6 d (e0 :: e1 :: e2 :: e3 :: e4 :: e5 :: e6 :: l) κ X QG := h
theorem g_n7 {e0 e1 e2 e3 e4 e5 e6 e7 : Option D} {l : DEnv} (h : QG (e0 :: e1 :: e2 :: e3 :: e4 :: e5 :: e6 :: some d :: l) κ) : gN 7 d (e0 :: e1 :: e2 :: e3 :: e4 :: e5 :: e6 :: e7 :: l) κ X QG := h
theorem g_n8 {e0 e1 e2 e3 e4 e5 e6 e7 e8 : Option D} {l : DEnv} (h : QG (e0 :: e1 :: e2 :: e3 :: e4 :: e5 :: e6 :: e7 :: some d :: l) κ) : gN 8 d (e0 :: e1 :: e2 :: e3 :: e4 :: e5 :: e6 :: e7 :: e8 :: l) κ X QG := h
theorem g_n9 {e0 e1 e2 e3 e4 e5 e6 e7 e8 e9 : Option D} {l : DEnv} (h : QG (e0 :: e1 :: e2 :: e3 :: e4 :: e5 :: e6 :: e7 :: e8 :: some d :: l) κ) : gN 9 d (e0 :: e1 :: e2 :: e3 :: e4 :: e5 :: e6 :: e7 :: e8 :: e9 :: l) κ X QG := h
theorem g_n10 {e0 e1 e2 e3 e4 e5 e6 e7 e8 e9 e10 : Option D} {l : DEnv} (h : QG (e0 :: e1 :: e2 :: e3 :: e4 :: e5 :: e6 :: e7 :: e8 :: e9 :: some d :: l) κ) : gN 10 d (e0 :: e1 :: e2 :: e3 :: e4 :: e5 :: e6 :: e7 :: e8 :: e9 :: e10 :: l) κ X QG := h
theorem g_n11 {e0 e1 e2 e3 e4 e5 e6 e7 e8 e9 e10 e11 : Option D} {l : DEnv} (h : QG (e0 :: e1 :: e2 :: e3 :: e4 :: e5 :: e6 :: e7 :: e8 :: e9 :: e10 :: some d :: l) κ) : gN 11 d (e0 :: e1 :: e2 :: e3 :: e4 :: e5 :: e6 :: e7 :: e8 :: e9 :: e10 :: e11 :: l) κ X QG := h
theorem g_n12 {e0 e1 e2 e3 e4 e5 e6 e7 e8 e9 e10 e11 e12 : Option D} {l : DEnv} (h : QG (e0 :: e1 :: e2 :: e3 :: e4 :: e5 :: e6 :: e7 :: e8 :: e9 :: e10 :: e11 :: some d :: l) κ) : gN 12 d (e0 :: e1 :: e2 :: e3 :: e4 :: e5 :: e6 :: e7 :: e8 :: e9 :: e10 :: e11 :: e12 :: l) κ X QG := h
theorem g_n13 {e0 e1 e2 e3 e4 e5 e6 e7 e8 e9 e10 e11 e12 e13 : Option D} {l : DEnv} (h : QG (e0 :: e1 :: e2 :: e3 :: e4 :: e5 :: e6 :: e7 :: e8 :: e9 :: e10 :: e11 :: e12 :: some d :: l) κ) : gN 13 d (e0 :: e1 :: e2 :: e3 :: e4 :: e5 :: e6 :: e7 :: e8 :: e9 :: e10 :: e11 :: e12 :: e13 :: l) κ X QG := h
theorem g_n14 {e0 e1 e2 e3 e4 e5 e6 e7 e8 e9 e10 e11 e12 e13 e14 : Option D} {l : DEnv} (h : QG (e0 :: e1 :: e2 :: e3 :: e4 :: e5 :: e6 :: e7 :: e8 :: e9 :: e10 :: e11 :: e12 :: e13 :: some d :: l) κ) : gN 14 d (e0 :: e1 :: e2 :: e3 :: e4 :: e5 :: e6 :: e7 :: e8 :: e9 :: e10 :: e11 :: e12 :: e13 :: e14 :: l) κ X QG := h
theorem g_n15 {e0 e1 e2 e3 e4 e5 e6 e7 e8 e9 e10 e11 e12 e13 e14 e15 : Option D} {l : DEnv} (h : QG (e0 :: e1 :: e2 :: e3 :: e4 :: e5 :: e6 :: e7 :: e8 :: e9 :: e10 :: e11 :: e12 :: e13 :: e14 :: some d :: l) κ) : gN 15 d (e0 :: e1 :: e2 :: e3 :: e4 :: e5 :: e6 :: e7 :: e8 :: e9 :: e10 :: e11 :: e12 :: e13 :: e14 :: e15 :: l) κ X QG := h
theorem g_n16 {e0 e1 e2 e3 e4 e5 e6 e7 e8 e9 e10 e11 e12 e13 e14 e15 e16 : Option D} {l : DEnv} (h : QG (e0 :: e1 :: e2 :: e3 :: e4 :: e5 :: e6 :: e7 :: e8 :: e9 :: e10 :: e11 :: e12 :: e13 :: e14 :: e15 :: some d :: l) κ) : gN 16 d (e0 :: e1 :: e2 :: e3 :: e4 :: e5 :: e6 :: e7 :: e8 :: e9 :: e10 :: e11 :: e12 :: e13 :: e14 :: e15 :: e16 :: l) κ X QG := h
theorem g_n17 {e0 e1 e2 e3 e4 e5 e6 e7 e8 e9 e10 e11 e12 e13 e14 e15 e16 e17 : Option D} {l : DEnv} (h : QG (e0 :: e1 :: e2 :: e3 :: e4 :: e5 :: e6 :: e7 :: e8 :: e9 :: e10 :: e11 :: e12 :: e13 :: e14 :: e15 :: e16 :: some d :: l) κ) : gN 17 d (e0 :: e1 :: e2 :: e3 :: e4 :: e5 :: e6 :: e7 :: e8 :: e9 :: e10 :: e11 :: e12 :: e13 :: e14 :: e15 :: e16 :: e17 :: l) κ X QG := h
theorem g_n18 {e0 e1 e2 e3 e4 e5 e6 e7 e8 e9 e10 e11 e12 e13 e14 e15 e16 e17 e18 : Option D} {l : DEnv} (h : QG (e0 :: e1 :: e2 :: e3 :: e4 :: e5 :: e6 :: e7 :: e8 :: e9 :: e10 :: e11 :: e12 :: e13 :: e14 :: e15 :: e16 :: e17 :: some d :: l) κ) : gN 18 d (e0 :: e1 :: e2 :: e3 :: e4 :: e5 :: e6 :: e7 :: e8 :: e9 :: e10 :: e11 :: e12 :: e13 :: e14 :: e15 :: e16 :: e17 :: e18 :: l) κ X QG := h
theorem g_n19 {e0 e1 e2 e3 e4 e5 e6 e7 e8 e9 e10 e11 e12 e13 e14 e15 e16 e17 e18 e19 : Option D} {l : DEnv} (h : QG (e0 :: e1 :: e2 :: e3 :: e4 :: e5 :: e6 :: e7 :: e8 :: e9 :: e10 :: e11 :: e12 :: e13 :: e14 :: e15 :: e16 :: e17 :: e18 :: some d :: l) κ) : gN 19 d (e0 :: e1 :: e2 :: e3 :: e4 :: e5 :: e6 :: e7 :: e8 :: e9 :: e10 :: e11 :: e12 :: e13 :: e14 :: e15 :: e16 :: e17 :: e18 :: e19 :: l) κ X QG := h
theorem g_n20 {e0 e1 e2 e3 e4 e5 e6 e7 e8 e9 e10 e11 e12 e13 e14 e15 e16 e17 e18 e19 e20 : Option D} {l : DEnv} (h : QG (e0 :: e1 :: e2 :: e3 :: e4 :: e5 :: e6 :: e7 :: e8 :: e9 :: e10 :: e11 :: e12 :: e13 :: e14 :: e15 :: e16 :: e17 :: e18 :: e19 :: some d :: l) κ) : gN 20 d (e0 :: e1 :: e2 :: e3 :: e4 :: e5 :: e6 :: e7 :: e8 :: e9 :: e10 :: e11 :: e12 :: e13 :: e14 :: e15 :: e16 :: e17 :: e18 :: e19 :: e20 :: l) κ X QG := h
theorem g_n21 {e0 e1 e2 e3 e4 e5 e6 e7 e8 e9 e10 e11 e12 e13 e14 e15 e16 e17 e18 e19 e20 e21 : Option D} {l : DEnv} (h : QG (e0 :: e1 :: e2 :: e3 :: e4 :: e5 :: e6 :: e7 :: e8 :: e9 :: e10 :: e11 :: e12 :: e13 :: e14 :: e15 :: e16 :: e17 :: e18 :: e19 :: e20 :: some d :: l) κ) : gN 21 d (e0 :: e1 :: e2 :: e3 :: e4 :: e5 :: e6 :: e7 :: e8 :: e9 :: e10 :: e11 :: e12 :: e13 :: e14 :: e15 :: e16 :: e17 :: e18 :: e19 :: e20 :: e21 :: l) κ X QG := h
theorem g_n22 {e0 e1 e2 e3 e4 e5 e6 e7 e8 e9 e10 e11 e12 e13 e14 e15 e16 e17 e18 e19 e20 e21 e22 : Option D} {l : DEnv} (h : QG (e0 :: e1 :: e2 :: e3 :: e4 :: e5 :: e6 :: e7 :: e8 :: e9 :: e10 :: e11 :: e12 :: e13 :: e14 :: e15 :: e16 :: e17 :: e18 :: e19 :: e20 :: e21 :: some d :: l) κ) : gN 22 d (e0 :: e1 :: e2 :: e3 :: e4 :: e5 :: e6 :: e7 :: e8 :: e9 :: e10 :: e11 :: e12 :: e13 :: e14 :: e15 :: e16 :: e17 :: e18 :: e19 :: e20 :: e21 :: e22 :: l) κ X QG := h
theorem g_n23 {e0 e1 e2 e3 e4 e5 e6 e7 e8 e9 e10 e11 e12 e13 e14 e15 e16 e17 e18 e19 e20 e21 e22 e23 : Option D} {l : DEnv} (h : QG (e0 :: e1 :: e2 :: e3 :: e4 :: e5 :: e6 :: e7 :: e8 :: e9 :: e10 :: e11 :: e12 :: e13 :: e14 :: e15 :: e16 :: e17 :: e18 :: e19 :: e20 :: e21 :: e22 :: some d :: l) κ) : gN 23 d (e0 :: e1 :: e2 :: e3 :: e4 :: e5 :: e6 :: e7 :: e8 :: e9 :: e10 :: e11 :: e12 :: e13 :: e14 :: e15 :: e16 :: e17 :: e18 :: e19 :: e20 :: e21 :: e22 :: e23 :: l) κ X QG := h
end
end DL

/-! DT: texts of a bounded length, of code points. -/
namespace DL
open PySem PySem.Spec PyProof.Rows L2
def Tx (n : Nat) (x : Str) : Prop := x.length ≤ n ∧ ∀ c ∈ x.cps.toList, c < 0x110000
theorem Tx.mono {n m : Nat} {x : Str} (h : Tx n x) (hm : n ≤ m) : Tx m x := ⟨Nat.le_trans h.1 hm, h.2⟩
theorem Tx.app {n m : Nat} {x y : Str} (h : Tx n x) (h' : Tx m y) : Tx (n + m) (x ++ y) := ⟨by
    rw [len_app]
    exact Nat.add_le_add h.1 h'.1, fun c hc => by
    have e : (x ++ y).cps.toList = x.cps.toList ++ y.cps.toList := Array.toList_append
    rw [e] at hc
    rcases List.mem_append.mp hc with hc | hc
    · exact h.2 c hc
    · exact h'.2 c hc⟩
theorem Tx.cut {n : Nat} {x : Str} (h : Tx n x) (p q : Option Int) : Tx n (cutS x p q) := ⟨Nat.le_trans (len_cut x p q) h.1, fun c hc => by
    have e : (cutS x p q).cps.toList = (x.cps.toList.drop (HT.sIx x.length 0 p)).take (HT.sIx x.length x.length q - HT.sIx x.length 0 p) := rfl
    rw [e] at hc
    exact h.2 c (List.drop_subset _ _ (List.take_subset _ _ hc))⟩
theorem Tx.one {c : Nat} (h : c < 0x110000) : Tx 1 ⟨#[c]⟩ := ⟨Nat.le_refl _, fun d hd => by
    have : d ∈ [c] := hd
    rw [List.mem_singleton.mp this]
    exact h⟩
theorem Tx.of {n : Nat} (s : String) (h : (Str.ofString s).length ≤ n) : Tx n (Str.ofString s) := ⟨h, fun c hc => by
    rw [PySem.Str.ofString_eq_toList] at hc
    have hc' : c ∈ s.toList.map Char.toNat := hc
    obtain ⟨ch, _, rfl⟩ := List.mem_map.mp hc'
    rcases ch.valid with h | ⟨_, h⟩
    · exact Nat.lt_trans h (by decide)
    · exact h⟩
theorem Tx.num {i : Int} (h : i.natAbs.log2 < 1920) : Tx 1921 (toString i : String) := Tx.of _ (PyProof.Rows.int_text_len_1921 h)
theorem Tx.emp : Tx 0 (Str.ofString "") := Tx.of _ (by rw [len_emp]; exact Nat.le_refl _)
theorem Tx.join {n : Nat} : ∀ {ys : List Str}, (∀ y ∈ ys, Tx n y) → Tx (ys.length * n) (Str.join "" ys)
  | [], _ => Tx.emp.mono (Nat.zero_le _)
  | [x], h => by
    have := h x List.mem_cons_self
    exact this.mono (by simp)
  | x :: y :: r, h => by
    have h1 := h x List.mem_cons_self
    have h2 := Tx.join (ys := y :: r) fun z hz => h z (List.mem_cons_of_mem _ hz)
    have := (h1.app Tx.emp).app h2
    exact this.mono (by simp only [List.length_cons, Nat.add_mul, Nat.one_mul]; omega)
theorem Tx.joinT {n : Nat} {ys : List Str} (h : ∀ y ∈ ys, Tx n y) : Tx (ys.length * n) (Txt.join (Str.ofString "") ys) := by
  rw [TL.join_eq]
  exact Tx.join h
theorem Tx.sum {n : Nat} : ∀ {ys : List Str}, (∀ y ∈ ys, Tx n y) → (ys.map (·.length)).sum ≤ ys.length * n
  | [], _ => Nat.zero_le _
  | y :: ys, h => by
    have h1 := (h y List.mem_cons_self).1
    have h2 := Tx.sum (ys := ys) fun z hz => h z (List.mem_cons_of_mem _ hz)
    rw [List.map_cons, List.sum_cons, List.length_cons, Nat.add_mul, Nat.one_mul]
    omega
theorem Tx.shaped {n : Nat} {x : Str} (h : Tx n x) : SeqAt.shaped (.str x) = true := by
  have : PyData.strOk x = true := by
    unfold PyData.strOk
    rw [Array.all_eq_true']
    intro c hc
    exact decide_eq_true (h.2 c (Array.mem_toList_iff.mpr hc))
  show ((PyData.strOk x) && decide _) = true
  rw [this]
  rfl
theorem shaped_strs {n : Nat} : ∀ {ys : List Str}, (∀ y ∈ ys, Tx n y) → SeqAt.shaped (.list (ys.map PyData.str)) = true := by
  intro ys h
  have h1 : ∀ ys : List Str, (∀ y ∈ ys, Tx n y) → PyData.canLayAll0 (ys.map PyData.str) = true ∧ PyData.depthAll (ys.map PyData.str) = 0 := by
    intro ys
    induction ys with
    | nil => intro _; exact ⟨rfl, rfl⟩
    | cons y ys ih =>
      intro h
      obtain ⟨a, b⟩ := ih fun z hz => h z (List.mem_cons_of_mem _ hz)
      have hy := h y List.mem_cons_self
      have : PyData.strOk y = true := by
        unfold PyData.strOk
        rw [Array.all_eq_true']
        intro c hc
        exact decide_eq_true (hy.2 c (Array.mem_toList_iff.mpr hc))
      refine ⟨?_, ?_⟩
      · show (PyData.strOk y && PyData.canLayAll0 (ys.map PyData.str)) = true
        rw [this, a]
        rfl
      · show max 0 (PyData.depthAll (ys.map PyData.str)) = 0
        rw [b]
        rfl
  obtain ⟨a, b⟩ := h1 ys h
  show (PyData.canLayAll0 (ys.map PyData.str) && decide (PyData.depthAll (ys.map PyData.str) + 1 ≤ 64)) = true
  rw [a, b]
  rfl
theorem pdata_strs (ys : List Str) : pdata (.node .lst (ys.map D.str)) = some (.list (ys.map PyData.str)) := by
  have : pdataL (ys.map D.str) = some (ys.map PyData.str) := by
    induction ys with
    | nil => rfl
    | cons y ys ih =>
      show (match pdata (.str y), pdataL (ys.map D.str) with
        | some p, some ps => some (p :: ps)
        | _, _ => none) = _
      rw [ih]
      rfl
  show (match pdataL (ys.map D.str) with
    | some ps => some (PyData.list ps)
    | none => none) = _
  rw [this]
/-- a list of texts, asked whether it is empty -/
theorem eq_none {n : Nat} {ys : List Str} {κ : Kap} {Q : DQ} (h : ∀ y ∈ ys, Tx n y) (q : Q (.bl ys.isEmpty) κ) : fEq (.node .lst (ys.map D.str)) (.node .lst []) κ Q := by
  refine eq_dat (pdata_strs ys) (q := .list []) rfl (shaped_strs h) rfl ?_
  cases ys <;> exact q
/-- a sign of a text -/
theorem Tx.at {n : Nat} {x : Str} {i : Int} (h : Tx n x) (h0 : 0 ≤ i) (h1 : i < x.length) : ∃ c, atI x.cps.toList i = some c ∧ Tx 1 ⟨#[c]⟩ := by
  obtain ⟨c, e, hc⟩ := at_of (xs := x.cps.toList) h0 (by rw [Array.length_toList]; exact h1)
  exact ⟨c, e, .one (h.2 c hc)⟩
theorem f_ixS {n : Nat} {x : Str} {i : Int} {κ : Kap} {Q : DQ} (h : Tx n x) (hn : n ≤ 16777216) (h0 : 0 ≤ i) (h1 : i < x.length) (q : ∀ c, Tx 1 ⟨#[c]⟩ → Q (.str ⟨#[c]⟩) κ) : fIx (.str x) (.int i) κ Q := by
  obtain ⟨c, e, hc⟩ := h.at h0 h1
  exact ⟨Nat.le_trans h.1 hn, c, e, q c hc⟩
theorem f_adT {n m : Nat} {z v : Str} {k : Bool} {κ : Kap} {Q : DQ} (h : Tx n z) (h' : Tx m v) (hs : n + m ≤ 16777216) (q : Tx (n + m) (z ++ v) → Q (.str (z ++ v)) κ) : fAdd k (.str z) (.str v) κ Q :=
  ⟨by have h1 := h.1; have h2 := h'.1; unfold sizeLine; omega, q (h.app h')⟩
theorem f_slT {n : Nat} {z : Str} {k : Bool} {u v : Option Int} {κ : Kap} {Q : DQ} (h : Tx n z) (hs : n ≤ 16777216) (q : Tx n (cutS z u v) → Q (.str (cutS z u v)) κ) : fSl k (.str z) u v κ Q :=
  ⟨Nat.le_trans h.1 hs, q (h.cut u v)⟩
theorem f_lnTx {n : Nat} {z : Str} {κ : Kap} {Q : DQ} (h : Tx n z) (hs : n ≤ 16777216) (q : z.length ≤ n → Q (.int (z.length : Nat)) κ) : fLen [.str z] κ Q := ⟨Nat.le_trans h.1 hs, q h.1⟩
theorem f_join {n : Nat} {ys : List Str} {κ : Kap} {Q : DQ} (h : ∀ y ∈ ys, Tx n y) (hn : ys.length * n ≤ 16777216) (q : ∀ x, Tx (ys.length * n) x → Q (.str x) κ) : fJoin (.str (Str.ofString "")) (.node .lst (ys.map D.str)) κ Q :=
  ⟨ys, .inl rfl, by rw [len_emp]; have := Tx.sum h; omega, q _ (Tx.joinT h)⟩
end DL

/-! DN: numbers as tops and bases. -/
namespace DL
open PySem PySem.Spec PyProof.Rows L2
/-! texts of data -/
theorem Tx.list {n : Nat} {ts : List Str} (h : ∀ t ∈ ts, Tx n t) : Tx (ts.length * (n + 2) + 2) (listText ts) := by
  have t1 : Tx 1 (Str.ofString "[") := .of _ (by decide +kernel)
  have t2 : Tx 1 (Str.ofString "]") := .of _ (by decide +kernel)
  have t3 : Tx 2 (Str.ofString ", ") := .of _ (by decide +kernel)
  have go : ∀ (ts : List Str) (k : Nat) (acc : Str) (m : Nat), (∀ t ∈ ts, Tx n t) → Tx m acc → Tx (m + ts.length * (n + 2)) (textFrom k acc ts) := by
    intro ts
    induction ts with
    | nil => intro k acc m _ ha; exact ha.mono (by simp)
    | cons t r ih =>
      intro k acc m ht ha
      have h1 := ht t List.mem_cons_self
      have h0 : Tx 2 (Str.ofString (if k > 0 then ", " else "")) := by
        split
        · exact t3
        · exact Tx.emp.mono (by decide)
      have := ih (k + 1) _ (m + 2 + n) (fun z hz => ht z (List.mem_cons_of_mem _ hz)) ((ha.app h0).app h1)
      refine this.mono ?_
      rw [List.length_cons, Nat.add_mul]
      omega
  exact ((go ts 0 _ 1 h t1).app t2).mono (by omega)
theorem Tx.joinC {n : Nat} : ∀ {ys : List Str}, (∀ y ∈ ys, Tx n y) → Tx (ys.length * (n + 2)) (Str.join ", " ys)
  | [], _ => Tx.emp.mono (Nat.zero_le _)
  | [x], h => (h x List.mem_cons_self).mono (by simp)
  | x :: y :: r, h => by
    have t3 : Tx 2 (Str.ofString ", ") := .of _ (by decide +kernel)
    have h1 := h x List.mem_cons_self
    have h2 := Tx.joinC (ys := y :: r) fun z hz => h z (List.mem_cons_of_mem _ hz)
    have := (h1.app t3).app h2
    exact this.mono (by simp only [List.length_cons, Nat.add_mul, Nat.one_mul]; omega)
theorem Tx.tuple {n : Nat} {ts : List Str} (h : ∀ t ∈ ts, Tx n t) : Tx (ts.length * (n + 2) + 3) (tupleText ts) := by
  have t1 : Tx 1 (Str.ofString "(") := .of _ (by decide +kernel)
  have t2 : Tx 2 (Str.ofString (if ts.length == 1 then ",)" else ")")) := by
    split
    · exact .of _ (by decide +kernel)
    · exact (Tx.of (n := 1) _ (by decide +kernel)).mono (by decide)
  exact ((t1.app (Tx.joinC h)).app t2).mono (by omega)
theorem shownAll_mem : ∀ {ps : List PyData} {t : Str}, t ∈ PyData.shownAll ps → ∃ p ∈ ps, t = p.shown
  | [], _, h => absurd h List.not_mem_nil
  | p :: ps, t, h => by
    rcases List.mem_cons.mp (show t ∈ p.shown :: PyData.shownAll ps from h) with h | h
    · exact ⟨p, List.mem_cons_self, h⟩
    · obtain ⟨q, hq, e⟩ := shownAll_mem h
      exact ⟨q, List.mem_cons_of_mem _ hq, e⟩
theorem shownAll_len : ∀ {ps : List PyData}, (PyData.shownAll ps).length = ps.length
  | [] => rfl
  | p :: ps => by
    show (p.shown :: PyData.shownAll ps).length = _
    rw [List.length_cons, List.length_cons, shownAll_len]
/-- data whose text is of a bounded length -/
def Sh (n : Nat) (p : PyData) : Prop := p.showable = true ∧ Tx n p.shown
theorem Sh.mono {n m : Nat} {p : PyData} (h : Sh n p) (hm : n ≤ m) : Sh m p := ⟨h.1, h.2.mono hm⟩
theorem Sh.int {i : Int} (h : i.natAbs.log2 < 1920) : Sh 1921 (.int i) := ⟨by
  show decide _ = true
  exact decide_eq_true h, Tx.num h⟩
theorem Sh.all {n : Nat} : ∀ {ps : List PyData}, (∀ p ∈ ps, Sh n p) → PyData.showableAll ps = true
  | [], _ => rfl
  | p :: ps, h => by
    show (p.showable && PyData.showableAll ps) = true
    rw [(h p List.mem_cons_self).1, Sh.all fun q hq => h q (List.mem_cons_of_mem _ hq)]
    rfl
theorem Sh.list {n : Nat} {ps : List PyData} (h : ∀ p ∈ ps, Sh n p) : Sh (ps.length * (n + 2) + 2) (.list ps) := ⟨Sh.all h, by
  show Tx _ (listText (PyData.shownAll ps))
  rw [← shownAll_len]
  exact Tx.list fun t ht => by
    obtain ⟨p, hp, rfl⟩ := shownAll_mem ht
    exact (h p hp).2⟩
theorem Sh.tuple {n : Nat} {ps : List PyData} (h : ∀ p ∈ ps, Sh n p) : Sh (ps.length * (n + 2) + 3) (.tuple ps) := ⟨Sh.all h, by
  show Tx _ (tupleText (PyData.shownAll ps))
  rw [← shownAll_len]
  exact Tx.tuple fun t ht => by
    obtain ⟨p, hp, rfl⟩ := shownAll_mem ht
    exact (h p hp).2⟩
theorem repr_sh {n : Nat} {x : D} {p : PyData} {κ : Kap} {Q : DQ} (hp : pdata x = some p) (h : Sh n p) (hn : n ≤ 16777216) (h2 : p.depth ≤ 60) (q : Tx n p.shown → Q (.str p.shown) κ) : fRepr [x] κ Q :=
  repr_of hp h.1 h2 (Nat.le_trans h.2.1 hn) (q h.2)
/-! shape of data -/
/-- data that compares: how deep at most -/
def Sp (k : Nat) (p : PyData) : Prop := p.canLay0 = true ∧ p.depth ≤ k
theorem Sp.mono {k m : Nat} {p : PyData} (h : Sp k p) (hm : k ≤ m) : Sp m p := ⟨h.1, Nat.le_trans h.2 hm⟩
theorem Sp.int {i : Int} : Sp 0 (.int i) := ⟨rfl, Nat.le_refl _⟩
theorem Sp.bool {b : Bool} : Sp 0 (.bool b) := ⟨rfl, Nat.le_refl _⟩
theorem Sp.none : Sp 0 .none := ⟨rfl, Nat.le_refl _⟩
theorem Sp.str {n : Nat} {x : Str} (h : Tx n x) : Sp 0 (.str x) := ⟨by
  show PyData.strOk x = true
  unfold PyData.strOk
  rw [Array.all_eq_true']
  intro c hc
  exact decide_eq_true (h.2 c (Array.mem_toList_iff.mpr hc)), Nat.le_refl _⟩
theorem Sp.all {k : Nat} : ∀ {ps : List PyData}, (∀ p ∈ ps, Sp k p) → PyData.canLayAll0 ps = true ∧ PyData.depthAll ps ≤ k
  | [], _ => ⟨rfl, Nat.zero_le _⟩
  | p :: ps, h => by
    obtain ⟨a, b⟩ := Sp.all fun q hq => h q (List.mem_cons_of_mem _ hq)
    obtain ⟨c, d⟩ := h p List.mem_cons_self
    refine ⟨?_, ?_⟩
    · show (p.canLay0 && PyData.canLayAll0 ps) = true
      rw [a, c]
      rfl
    · show max p.depth (PyData.depthAll ps) ≤ k
      omega
theorem Sp.list {k : Nat} {ps : List PyData} (h : ∀ p ∈ ps, Sp k p) : Sp (k + 1) (.list ps) := ⟨(Sp.all h).1, by
  show PyData.depthAll ps + 1 ≤ k + 1
  have := (Sp.all h).2
  omega⟩
theorem Sp.tuple {k : Nat} {ps : List PyData} (h : ∀ p ∈ ps, Sp k p) : Sp (k + 1) (.tuple ps) := ⟨(Sp.all h).1, by
  show PyData.depthAll ps + 1 ≤ k + 1
  have := (Sp.all h).2
  omega⟩
theorem Sp.shaped {k : Nat} {p : PyData} (h : Sp k p) (hk : k ≤ 64) : SeqAt.shaped p = true := by
  show (p.canLay0 && decide (p.depth ≤ 64)) = true
  rw [h.1, decide_eq_true (Nat.le_trans h.2 hk)]
  rfl
theorem pdataL_map {α : Type} {f : α → D} {g : α → PyData} (h : ∀ a, pdata (f a) = some (g a)) : ∀ l : List α, pdataL (l.map f) = some (l.map g)
  | [] => rfl
  | a :: l => by
    show (match pdata (f a), pdataL (l.map f) with
      | some p, some ps => some (p :: ps)
      | _, _ => none) = _
    rw [h a, pdataL_map h l]
    rfl
theorem pdata_list {xs : List D} {ps : List PyData} (h : pdataL xs = some ps) : pdata (.node .lst xs) = some (.list ps) := by
  show (match pdataL xs with
    | some ps => some (PyData.list ps)
    | none => none) = _
  rw [h]
theorem pdata_tup {xs : List D} {ps : List PyData} (h : pdataL xs = some ps) : pdata (.node .tup xs) = some (.tuple ps) := by
  show (match pdataL xs with
    | some ps => some (PyData.tuple ps)
    | none => none) = _
  rw [h]
theorem eqvAll_refl {ps : List PyData} (h : ∀ p ∈ ps, PyData.eqv p p = true) : PyData.eqvAll ps ps = true := by
  induction ps with
  | nil => rfl
  | cons p ps ih =>
    show (PyData.eqv p p && PyData.eqvAll ps ps) = true
    rw [h p List.mem_cons_self, ih fun q hq => h q (List.mem_cons_of_mem _ hq)]
    rfl

/-! the greatest common part -/
theorem gcd_step {x y : Nat} (h : y ≠ 0) : Nat.gcd y (x % y) = Nat.gcd x y := by
  rw [Nat.gcd_comm x y, Nat.gcd_rec y x, Nat.gcd_comm]
theorem abs_nat (i : Int) : (if i < 0 then -i else i) = (i.natAbs : Int) := by
  split <;> omega
/-- the part by which a number is shortened -/
def cpt (u l : Int) : Int := if l < 0 then 0 - (Int.gcd u l : Int) else (Int.gcd u l : Int)
theorem cpt_ne {u l : Int} (h : l ≠ 0) : cpt u l ≠ 0 := by
  have := Int.gcd_pos_of_ne_zero_right u h
  unfold cpt
  split <;> omega
def rtn (u l : Int) : Int := u.fdiv (cpt u l)
def rtd (u l : Int) : Int := l.fdiv (cpt u l)
theorem cpt_dvd_l (u l : Int) : cpt u l ∣ u := by
  unfold cpt
  split
  · rw [Int.zero_sub]
    exact Int.neg_dvd.mpr (Int.gcd_dvd_left ..)
  · exact Int.gcd_dvd_left ..
theorem cpt_dvd_r (u l : Int) : cpt u l ∣ l := by
  unfold cpt
  split
  · rw [Int.zero_sub]
    exact Int.neg_dvd.mpr (Int.gcd_dvd_right ..)
  · exact Int.gcd_dvd_right ..
theorem rtn_mul (u l : Int) : rtn u l * cpt u l = u := Int.fdiv_mul_cancel (cpt_dvd_l u l)
theorem rtd_mul (u l : Int) : rtd u l * cpt u l = l := Int.fdiv_mul_cancel (cpt_dvd_r u l)
/-- in lowest terms, the base above nought -/
def NOk (a b : Int) : Prop := 0 < b ∧ Int.gcd a b = 1
theorem NOk.one (a : Int) : NOk a 1 := ⟨by decide, by rw [Int.gcd_one_right]⟩
theorem rt_ok {u l : Int} (h : l ≠ 0) : NOk (rtn u l) (rtd u l) := by
  have hp := cpt_ne (u := u) h
  have e1 := rtn_mul u l
  have e2 := rtd_mul u l
  have hg := Int.gcd_pos_of_ne_zero_right u h
  have ha : (cpt u l).natAbs = Int.gcd u l := by unfold cpt; split <;> omega
  refine ⟨?_, ?_⟩
  · by_cases hl : l < 0
    · have hc : cpt u l < 0 := by unfold cpt; rw [if_pos hl]; omega
      rcases Int.lt_trichotomy 0 (rtd u l) with h1 | h1 | h1
      · exact h1
      · rw [← h1, Int.zero_mul] at e2; omega
      · have := Int.mul_pos_of_neg_of_neg h1 hc; omega
    · have hc : 0 < cpt u l := by unfold cpt; rw [if_neg hl]; omega
      rcases Int.lt_trichotomy 0 (rtd u l) with h1 | h1 | h1
      · exact h1
      · rw [← h1, Int.zero_mul] at e2; omega
      · have := Int.mul_neg_of_neg_of_pos h1 hc; omega
  · have e : Int.gcd (rtn u l * cpt u l) (rtd u l * cpt u l) = Int.gcd (rtn u l) (rtd u l) * (cpt u l).natAbs := Int.gcd_mul_right ..
    rw [e1, e2, ha] at e
    have : 1 * Int.gcd u l = Int.gcd (rtn u l) (rtd u l) * Int.gcd u l := by rw [Nat.one_mul]; exact e
    exact (Nat.eq_of_mul_eq_mul_right hg this).symm
theorem nat_uniq {a b c d : Nat} (hb : Nat.Coprime a b) (hd : Nat.Coprime c d) (h : a * d = c * b) : b = d := by
  have h1 : b ∣ d := by
    have : b ∣ a * d := ⟨c, by rw [h, Nat.mul_comm]⟩
    exact (Nat.Coprime.symm hb).dvd_of_dvd_mul_left this
  have h2 : d ∣ b := by
    have : d ∣ c * b := ⟨a, by rw [← h, Nat.mul_comm]⟩
    exact (Nat.Coprime.symm hd).dvd_of_dvd_mul_left this
  exact Nat.dvd_antisymm h1 h2
theorem NOk.uniq {a b c d : Int} (h : NOk a b) (h' : NOk c d) (e : a * d = c * b) : a = c ∧ b = d := by
  have hb : b = d := by
    have h1 : a.natAbs * d.natAbs = c.natAbs * b.natAbs := by rw [← Int.natAbs_mul, ← Int.natAbs_mul, e]
    have := nat_uniq (show Nat.Coprime a.natAbs b.natAbs from h.2) (show Nat.Coprime c.natAbs d.natAbs from h'.2) h1
    have h2 := h.1
    have h3 := h'.1
    omega
  subst hb
  exact ⟨Int.eq_of_mul_eq_mul_right (Int.ne_of_gt h.1) e, rfl⟩
theorem rt_cross {u l : Int} : rtn u l * l = u * rtd u l := by
  have e1 := rtn_mul u l
  have e2 := rtd_mul u l
  calc rtn u l * l = rtn u l * (rtd u l * cpt u l) := by rw [e2]
    _ = rtn u l * cpt u l * rtd u l := by rw [Int.mul_comm (rtd u l), Int.mul_assoc]
    _ = u * rtd u l := by rw [e1]
/-- what is shortened to the same -/
theorem rt_is {u l a b : Int} (hl : l ≠ 0) (h : NOk a b) (e : a * l = u * b) : rtn u l = a ∧ rtd u l = b := by
  refine (rt_ok hl).uniq h ?_
  have h1 := rt_cross (u := u) (l := l)
  have h3 : (rtn u l * b) * l = (a * rtd u l) * l := by
    calc (rtn u l * b) * l = (rtn u l * l) * b := by rw [Int.mul_assoc, Int.mul_comm b l, ← Int.mul_assoc]
      _ = u * rtd u l * b := by rw [h1]
      _ = u * b * rtd u l := by rw [Int.mul_assoc, Int.mul_comm (rtd u l) b, ← Int.mul_assoc]
      _ = a * l * rtd u l := by rw [e]
      _ = (a * rtd u l) * l := by rw [Int.mul_assoc, Int.mul_comm l (rtd u l), ← Int.mul_assoc]
  exact Int.eq_of_mul_eq_mul_right hl h3
theorem rt_self {a b : Int} (h : NOk a b) : rtn a b = a ∧ rtd a b = b := rt_is (Int.ne_of_gt h.1) h rfl
theorem rt_one (a : Int) : rtn a 1 = a ∧ rtd a 1 = 1 := rt_self (.one a)
theorem rt_zero {l : Int} (h : l ≠ 0) : rtn 0 l = 0 ∧ rtd 0 l = 1 := rt_is h (.one 0) (by simp)
theorem rt_mul {u l p : Int} (hl : l ≠ 0) (hp : p ≠ 0) : rtn (u * p) (l * p) = rtn u l ∧ rtd (u * p) (l * p) = rtd u l := by
  refine rt_is (Int.mul_ne_zero hl hp) (rt_ok hl) ?_
  rw [← Int.mul_assoc, rt_cross, Int.mul_assoc, Int.mul_comm (rtd u l) p, ← Int.mul_assoc]
theorem abs_le_of_mul {a p u : Int} (e : a * p = u) (hp : p ≠ 0) : a.natAbs ≤ u.natAbs := by
  rw [← e, Int.natAbs_mul]
  exact Nat.le_mul_of_pos_right _ (by omega)
theorem rtn_le {u l : Int} (h : l ≠ 0) : (rtn u l).natAbs ≤ u.natAbs := abs_le_of_mul (rtn_mul u l) (cpt_ne h)
theorem rtd_le {u l : Int} (h : l ≠ 0) : (rtd u l).natAbs ≤ l.natAbs := abs_le_of_mul (rtd_mul u l) (cpt_ne h)
/-- a number, as it stands in the program -/
def nb (a b : Int) : D := if b = 1 then .int a else .node .tup [.int a, .int b]
def nbP (a b : Int) : PyData := if b = 1 then .int a else .tuple [.int a, .int b]
theorem nb_1 (a : Int) : nb a 1 = .int a := rfl
theorem nb_p {a b : Int} (h : b ≠ 1) : nb a b = .node .tup [.int a, .int b] := if_neg h
theorem nb_pdata (a b : Int) : pdata (nb a b) = some (nbP a b) := by
  unfold nb nbP
  split <;> rfl
theorem nbP_sp (a b : Int) : Sp 1 (nbP a b) := by
  unfold nbP
  split
  · exact Sp.int.mono (by decide)
  · exact Sp.tuple (k := 0) fun p hp => by
      simp only [List.mem_cons, List.not_mem_nil, or_false] at hp
      rcases hp with rfl | rfl <;> exact Sp.int
theorem nbP_sh {a b : Int} (ha : a.natAbs.log2 < 1920) (hb : b.natAbs.log2 < 1920) : Sh 3850 (nbP a b) := by
  unfold nbP
  split
  · exact (Sh.int ha).mono (by decide)
  · exact (Sh.tuple (n := 1921) fun p hp => by
      simp only [List.mem_cons, List.not_mem_nil, or_false] at hp
      rcases hp with rfl | rfl
      · exact Sh.int ha
      · exact Sh.int hb).mono (by simp only [List.length_cons, List.length_nil]; decide)
theorem eqv_int (a b : Int) : PyData.eqv (.int a) (.int b) = decide (a = b) := by
  show (a == b) = _
  by_cases h : a = b <;> simp [h]
theorem eqv_pair (a b c d : Int) : PyData.eqv (.tuple [.int a, .int b]) (.tuple [.int c, .int d]) = (decide (a = c) && decide (b = d)) := by
  show (PyData.eqv (.int a) (.int c) && (PyData.eqv (.int b) (.int d) && true)) = _
  rw [eqv_int, eqv_int, Bool.and_true]
theorem nbP_eqv {a b c d : Int} : PyData.eqv (nbP a b) (nbP c d) = decide (a = c ∧ b = d) := by
  unfold nbP
  by_cases hb : b = 1
  · by_cases hd : d = 1
    · rw [if_pos hb, if_pos hd, eqv_int, hb, hd]
      simp
    · rw [if_pos hb, if_neg hd]
      show false = _
      rw [decide_eq_false]
      omega
  · by_cases hd : d = 1
    · rw [if_neg hb, if_pos hd]
      show false = _
      rw [decide_eq_false]
      omega
    · rw [if_neg hb, if_neg hd, eqv_pair]
      simp
theorem f_eqN {a b c d : Int} {κ : Kap} {Q : DQ} (h : Q (.bl (decide (a = c ∧ b = d))) κ) : fEq (nb a b) (nb c d) κ Q :=
  eq_dat (nb_pdata a b) (nb_pdata c d) ((nbP_sp a b).shaped (by decide)) ((nbP_sp c d).shaped (by decide)) (by rw [nbP_eqv]; exact h)
theorem f_eqP {a b c d : Int} {κ : Kap} {Q : DQ} (h : Q (.bl (decide (a = c ∧ b = d))) κ) : fEq (.node .tup [.int a, .int b]) (.node .tup [.int c, .int d]) κ Q := by
  have sp : ∀ a b : Int, SeqAt.shaped (.tuple [.int a, .int b]) = true := fun a b => (Sp.tuple (k := 0) fun p hp => by
    simp only [List.mem_cons, List.not_mem_nil, or_false] at hp
    rcases hp with rfl | rfl <;> exact Sp.int).shaped (by decide)
  refine eq_dat (p := .tuple [.int a, .int b]) (q := .tuple [.int c, .int d]) rfl rfl (sp _ _) (sp _ _) ?_
  rw [eqv_pair, ← Bool.decide_and]
  exact h
theorem f_neN {a b c d : Int} {κ : Kap} {Q : DQ} (h : Q (.bl (!decide (a = c ∧ b = d))) κ) : fNe (nb a b) (nb c d) κ Q :=
  ne_dat (nb_pdata a b) (nb_pdata c d) ((nbP_sp a b).shaped (by decide)) ((nbP_sp c d).shaped (by decide)) (by rw [nbP_eqv]; exact h)
theorem NOk.zero {a b : Int} (h : NOk a b) : (a = 0 ∧ b = 1) ↔ a = 0 := ⟨fun h => h.1, fun e => ⟨e, by
  have h2 := h.2
  have h1 := h.1
  rw [e, Int.gcd_zero_left] at h2
  omega⟩⟩
theorem f_ne0 {a b : Int} {κ : Kap} {Q : DQ} (n : NOk a b) (h : Q (.bl (!decide (a = 0))) κ) : fNe (nb a b) (.int 0) κ Q := by
  refine f_neN (c := 0) (d := 1) ?_
  rw [decide_eq_decide.mpr n.zero]
  exact h
theorem f_eqNL {ps qs : List (Int × Int)} {κ : Kap} {Q : DQ} (h : Q (.bl (PyData.eqvAll (ps.map fun p => nbP p.1 p.2) (qs.map fun p => nbP p.1 p.2))) κ) : fEq (.node .lst (ps.map fun p => nb p.1 p.2)) (.node .lst (qs.map fun p => nb p.1 p.2)) κ Q := by
  have sp : ∀ l : List (Int × Int), SeqAt.shaped (.list (l.map fun p => nbP p.1 p.2)) = true := fun l => (Sp.list (k := 1) fun p hp => by
    obtain ⟨q, _, rfl⟩ := List.mem_map.mp hp
    exact nbP_sp _ _).shaped (by decide)
  exact eq_dat (pdata_list (pdataL_map (fun p => nb_pdata p.1 p.2) ps)) (pdata_list (pdataL_map (fun p => nb_pdata p.1 p.2) qs)) (sp ps) (sp qs) h
theorem repr_nbL {ps : List (Int × Int)} {κ : Kap} {Q : DQ} (hn : ps.length ≤ 4000) (hp : ∀ p ∈ ps, p.1.natAbs.log2 < 1920 ∧ p.2.natAbs.log2 < 1920) (q : ∀ x, x = (PyData.list (ps.map fun p => nbP p.1 p.2)).shown → Tx 16777216 x → Q (.str x) κ) : fRepr [.node .lst (ps.map fun p => nb p.1 p.2)] κ Q := by
  have h : Sh ((ps.map fun p => nbP p.1 p.2).length * (3850 + 2) + 2) (.list (ps.map fun p => nbP p.1 p.2)) := Sh.list fun p hp' => by
    obtain ⟨q, hq, rfl⟩ := List.mem_map.mp hp'
    exact nbP_sh (hp q hq).1 (hp q hq).2
  rw [List.length_map] at h
  have hd : (PyData.list (ps.map fun p => nbP p.1 p.2)).depth ≤ 60 := Nat.le_trans (Sp.list (k := 1) fun p hp => by
    obtain ⟨q, _, rfl⟩ := List.mem_map.mp hp
    exact nbP_sp _ _).2 (by decide)
  exact repr_sh (pdata_list (pdataL_map (fun p => nb_pdata p.1 p.2) ps)) h (by omega) hd fun t => q _ rfl (t.mono (by omega))
/-! calls by keywords -/
section
variable {δ : DEnv} {κ : Kap} {X : DX} {Q : DQ} {as kw : DA} {sp : DSp} {n m : Nat} {is : List Nat} {dds : List D}
theorem e_callC (h : as δ κ X fun xs κ1 => kw δ κ1 X fun ys κ2 => cC sp n m is dds xs ys κ2 (X δ) Q) : dCallC sp n m is dds as kw δ κ X Q := h
theorem c_C {xs ys zs : List D} {Y : Str → List D → Kap → Prop} (h1 : xs.length = n) (h2 : ys.length = m) (h3 : pick is (xs ++ (ys ++ dds)) = zs) (h : sp zs κ Y Q) : cC sp n m is dds xs ys κ Y Q := ⟨h1, h2, by rw [h3]; exact h⟩
end
end DL
namespace DL
open PySem PySem.Spec PyProof.Rows L2
/-- a number in lowest terms, of a bounded size -/
structure Nd (k : Nat) (a b : Int) : Prop where
  ok : NOk a b
  tb : a.natAbs < 2 ^ k
  bb : b.natAbs < 2 ^ k
theorem Nd.mono {k m : Nat} {a b : Int} (h : Nd k a b) (hm : k ≤ m) : Nd m a b :=
  ⟨h.ok, Nat.lt_of_lt_of_le h.tb (Nat.pow_le_pow_right (by decide) hm), Nat.lt_of_lt_of_le h.bb (Nat.pow_le_pow_right (by decide) hm)⟩
theorem Nd.rt {k : Nat} {u l : Int} (hl : l ≠ 0) (h1 : u.natAbs < 2 ^ k) (h2 : l.natAbs < 2 ^ k) : Nd k (rtn u l) (rtd u l) :=
  ⟨rt_ok hl, Nat.lt_of_le_of_lt (rtn_le hl) h1, Nat.lt_of_le_of_lt (rtd_le hl) h2⟩
theorem mul_bd {i j : Int} {a b : Nat} (h : i.natAbs < 2 ^ a) (h' : j.natAbs < 2 ^ b) : (i * j).natAbs < 2 ^ (a + b) := by
  rw [Int.natAbs_mul, Nat.pow_add]
  exact Nat.mul_lt_mul'' h h'
theorem add_bd {i j : Int} {a : Nat} (h : i.natAbs < 2 ^ a) (h' : j.natAbs < 2 ^ a) : (i + j).natAbs < 2 ^ (a + 1) := by
  have := Int.natAbs_add_le i j
  rw [Nat.pow_succ]
  omega
theorem sub_bd {i j : Int} {a : Nat} (h : i.natAbs < 2 ^ a) (h' : j.natAbs < 2 ^ a) : (i - j).natAbs < 2 ^ (a + 1) := by
  have := Int.natAbs_sub_le i j
  rw [Nat.pow_succ]
  omega
theorem bd_mono {i : Int} {a b : Nat} (h : i.natAbs < 2 ^ a) (hm : a ≤ b) : i.natAbs < 2 ^ b := Nat.lt_of_lt_of_le h (Nat.pow_le_pow_right (by decide) hm)
theorem Nd.b0 {k : Nat} {a b : Int} (h : Nd k a b) : b ≠ 0 := Int.ne_of_gt h.ok.1
/-- sums and differences, products and quotients -/
def pN (a b c d : Int) : Int := rtn (a * d + c * b) (b * d)
def pD (a b c d : Int) : Int := rtd (a * d + c * b) (b * d)
def mN (a b c d : Int) : Int := rtn (a * d - c * b) (b * d)
def mD (a b c d : Int) : Int := rtd (a * d - c * b) (b * d)
def tN (a b c d : Int) : Int := rtn (a * c) (b * d)
def tD (a b c d : Int) : Int := rtd (a * c) (b * d)
def oN (a b c d : Int) : Int := rtn (a * d) (b * c)
def oD (a b c d : Int) : Int := rtd (a * d) (b * c)
section
variable {k : Nat} {a b c d : Int}
theorem Nd.bd0 (h : Nd k a b) (h' : Nd k c d) : b * d ≠ 0 := Int.mul_ne_zero h.b0 h'.b0
theorem Nd.plus (h : Nd k a b) (h' : Nd k c d) : Nd (k + k + 1) (pN a b c d) (pD a b c d) := Nd.rt (h.bd0 h') (add_bd (mul_bd h.tb h'.bb) (mul_bd h'.tb h.bb)) (bd_mono (mul_bd h.bb h'.bb) (Nat.le_succ _))
theorem Nd.minus (h : Nd k a b) (h' : Nd k c d) : Nd (k + k + 1) (mN a b c d) (mD a b c d) := Nd.rt (h.bd0 h') (sub_bd (mul_bd h.tb h'.bb) (mul_bd h'.tb h.bb)) (bd_mono (mul_bd h.bb h'.bb) (Nat.le_succ _))
theorem Nd.times (h : Nd k a b) (h' : Nd k c d) : Nd (k + k + 1) (tN a b c d) (tD a b c d) := Nd.rt (h.bd0 h') (bd_mono (mul_bd h.tb h'.tb) (Nat.le_succ _)) (bd_mono (mul_bd h.bb h'.bb) (Nat.le_succ _))
theorem Nd.over (h : Nd k a b) (h' : Nd k c d) (h0 : c ≠ 0) : Nd (k + k + 1) (oN a b c d) (oD a b c d) := Nd.rt (Int.mul_ne_zero h.b0 h0) (bd_mono (mul_bd h.tb h'.bb) (Nat.le_succ _)) (bd_mono (mul_bd h.bb h'.tb) (Nat.le_succ _))
end
end DL
namespace DL
open PySem PySem.Spec PyProof.Rows L2
theorem fdiv_abs_le {x y : Int} (hy : 0 < y) : (x.fdiv y).natAbs ≤ x.natAbs + 1 := by
  have h1 := Int.mul_fdiv_add_fmod x y
  have h2 : x.fmod y < y := Int.fmod_lt_of_pos x hy
  have h3 : 0 ≤ x.fmod y := Int.fmod_nonneg_of_pos x hy
  generalize x.fdiv y = q at h1 ⊢
  generalize x.fmod y = r at h1 h2 h3
  subst h1
  by_cases hq : q = 0
  · subst hq; omega
  · have hb : q.natAbs ≤ (y * q).natAbs := by rw [Int.natAbs_mul]; exact Nat.le_mul_of_pos_left _ (by omega)
    rcases Int.lt_or_gt_of_ne hq with hq | hq
    · have e : (y * (q + 1)).natAbs = (y).natAbs * (q + 1).natAbs := Int.natAbs_mul ..
      have h5 : y * (q + 1) ≤ 0 := Int.mul_nonpos_of_nonneg_of_nonpos (by omega) (by omega)
      have h6 : y * (q + 1) = y * q + y := by rw [Int.mul_add, Int.mul_one]
      have h7 : (q + 1).natAbs ≤ y.natAbs * (q + 1).natAbs := Nat.le_mul_of_pos_left _ (by omega)
      omega
    · have h6 : 0 < y * q := Int.mul_pos hy hq
      omega
theorem f_intB {k : Bool} {κ : Kap} {Q : DQ} (h : Q (.int (if k = true then 1 else 0)) κ) : fInt [.bl k] κ Q := h
theorem f_intI {i : Int} {κ : Kap} {Q : DQ} (h : Q (.int i) κ) : fInt [.int i] κ Q := h
theorem bl2_shown : ∀ a b : Bool, (PyData.list [.bool a, .bool b]).depth ≤ 60 ∧ (PyData.list [.bool a, .bool b]).shown.length ≤ sizeLine := by decide +kernel
theorem repr_bl2 {a b : Bool} {κ : Kap} {Q : DQ} (h : Q (.str (PyData.list [.bool a, .bool b]).shown) κ) : fRepr [.lst [.bl a, .bl b]] κ Q :=
  repr_of rfl rfl (bl2_shown a b).1 (bl2_shown a b).2 h
theorem bl2_shaped : ∀ a b : Bool, SeqAt.shaped (.str (PyData.list [.bool a, .bool b]).shown) = true := by decide +kernel
theorem rt_pos {u l : Int} (hu : 0 < u) (hl : 0 < l) : 0 < rtn u l := by
  have e := rtn_mul u l
  have hc : 0 < cpt u l := by
    have := Int.gcd_pos_of_ne_zero_right u (Int.ne_of_gt hl)
    unfold cpt
    rw [if_neg (by omega)]
    omega
  rcases Int.lt_trichotomy 0 (rtn u l) with h | h | h
  · exact h
  · rw [← h, Int.zero_mul] at e; omega
  · have := Int.mul_neg_of_neg_of_pos h hc; omega
end DL

/-! DQ: steps: lists that grow, short loops, odd things. -/
namespace DL
open PySem PySem.Spec PyProof.Rows L2
section
variable {δ : DEnv} {κ : Kap} {X : DX} {Q : DQ} {a : DE} {as : DA} {T : String} {f : D1N} {n : Nat} {xs ds : List D} {d : D} {g : DG} {s : DS} {gd : Kap → Prop} {nx bk ct : DEnv → Kap → Prop} {rt : DQ} {A : Prop}
theorem e_bm (h : a δ κ X fun x κ1 => isSeq T x κ1 ∧ as δ κ1 X fun xs κ2 => f x xs κ2 Q) : dBM T f a as δ κ X Q := h
theorem isq_node (h : A) : isSeq "list" (.node .lst xs) κ ∧ A := ⟨⟨xs, rfl⟩, h⟩
theorem isq_cell (e : κ n = some (.live .lst xs)) (h : A) : isSeq "list" (.cell n) κ ∧ A := ⟨⟨xs, vw_cell e⟩, h⟩
theorem f_app (e : κ n = some (.live .lst xs)) (hl : xs.length < 16777216) (h : Q .non (kset κ n (.live .lst (xs ++ [d])))) : fAppend (.cell n) [d] κ Q := ⟨xs, e, hl, h⟩
theorem f_ixC {i : Nat} (e : κ n = some (.live .lst xs)) (hd : xs[i]? = some d) (h : Q d κ) : fIx (.cell n) (.int (i : Int)) κ Q := by
  rw [ix_cell e]
  exact ⟨d, at_nat hd, h⟩
theorem f_ixN {i : Nat} (hd : xs[i]? = some d) (h : Q d κ) : fIx (.node .lst xs) (.int (i : Int)) κ Q := ⟨d, at_nat hd, h⟩
theorem ix_memC {i : Int} (e : κ n = some (.live .lst xs)) (h0 : 0 ≤ i) (h1 : i < xs.length) (h : ∀ d ∈ xs, Q d κ) : fIx (.cell n) (.int i) κ Q := by
  rw [ix_cell e]
  obtain ⟨d, e, hd⟩ := at_of h0 h1
  exact ⟨d, e, h d hd⟩
theorem f_lnC (e : κ n = some (.live .lst xs)) (h : Q (.int (xs.length : Nat)) κ) : fLen [.cell n] κ Q := by
  unfold fLen
  simp only [vw_cell e]
  exact h
/-- a loop, turn by turn -/
theorem dl_cons (hg : gd κ) (h : g d δ κ X fun δ1 κ1 => s δ1 κ1 X ⟨dLoop g s gd X ⟨nx, rt, bk, ct⟩ ds, rt, nx, dLoop g s gd X ⟨nx, rt, bk, ct⟩ ds⟩) : dLoop g s gd X ⟨nx, rt, bk, ct⟩ (d :: ds) δ κ := ⟨hg, h⟩
theorem dl_nil (hg : gd κ) (h : nx δ κ) : dLoop g s gd X ⟨nx, rt, bk, ct⟩ [] δ κ := ⟨hg, h⟩
theorem range_0 : rangeD 0 (Int.toNat 0) = [] := rfl
theorem range_1 : rangeD 0 (Int.toNat 1) = [.int 0] := rfl
theorem range_2 : rangeD 0 (Int.toNat 2) = [.int 0, .int 1] := rfl
theorem range_3 : rangeD 0 (Int.toNat 3) = [.int 0, .int 1, .int 2] := rfl
/-- a text with itself -/
theorem f_eqSS {z : Str} (h : SeqAt.shaped (.str z) = true) (q : Q (.bl true) κ) : fEq (.str z) (.str z) κ Q := f_eqS h h (by rw [beq_self_eq_true]; exact q)
theorem f_neSS {z : Str} (h : SeqAt.shaped (.str z) = true) (q : Q (.bl false) κ) : fNe (.str z) (.str z) κ Q := f_neS h h (by rw [beq_self_eq_true]; exact q)
/-- is a truth among truths -/
theorem pdL_bls : ∀ bs : List Bool, pdataL (bs.map D.bl) = some (bs.map PyData.bool)
  | bs => pdataL_map (fun _ => rfl) bs
theorem sp_bls (bs : List Bool) : SeqAt.shaped (.list (bs.map PyData.bool)) = true := (Sp.list (k := 0) fun p hp => by
  obtain ⟨b, _, rfl⟩ := List.mem_map.mp hp
  exact Sp.bool).shaped (by decide)
theorem f_inBL {neg b : Bool} {bs : List Bool} (h : Q (.bl (if neg then !(bs.any fun c => c == b) else bs.any fun c => c == b)) κ) : fIn neg (.bl b) (.node .lst (bs.map D.bl)) κ Q := by
  have e : inP (.bool b) (.list (bs.map PyData.bool)) = bs.any fun c => c == b := by
    show (bs.map PyData.bool).any (fun z => PyData.eqv z (.bool b)) = _
    rw [List.any_map]
    rfl
  exact ⟨.bool b, .list (bs.map PyData.bool), .bl b, pd_of (pdata_list (pdL_bls bs)), rfl, sp_bls bs, ⟨_, .inl rfl⟩, by rw [e]; exact h⟩
theorem f_ixB {bs : List Bool} {b : Bool} (j : Nat) (ji : Int) (ej : (j : Int) = ji) (h1 : bs[j]? = some b) (h2 : ∀ m, m < j → bs[m]? ≠ some b) (h : Q (.int ji) κ) : fIndexB (.node .lst (bs.map D.bl)) [.bl b] κ Q := ⟨bs, b, j, rfl, rfl, h1, h2, by rw [ej]; exact h⟩
theorem repr_pd {x : D} {p : PyData} (hp : Pd κ x p) (h1 : p.showable = true) (h2 : p.depth ≤ 60) (h3 : p.shown.length ≤ sizeLine) (h : Q (.str p.shown) κ) : fRepr [x] κ Q := ⟨p, hp, h1, h2, h3, h⟩
theorem f_setD {ks : List Key} {i : D} {k : Key} {P : Kap → Prop} (e : κ n = some (.live (.dct ks) xs)) (hk : keyO i = some k) (hl : ks.length < 16777216) (h : P (kset κ n (.live (.dct (putKs ks k)) (putVs ks xs k d)))) : fSetD (.cell n) i d κ P := ⟨n, ks, xs, k, rfl, e, hk, hl, h⟩
theorem ty_cell {k : Kd} (e : κ n = some (.live k xs)) : tyK (.cell n) κ = kdTy k := by
  show (view (.cell n) κ).bind (fun p => kdTy p.1) = _
  rw [vw_cell e]
  rfl
end
/-! odd things: plain ones, lists and dicts that grow -/
def okP (p : PyData) : Bool := p.showable && (decide (p.depth ≤ 60) && (decide (p.shown.length ≤ 16777216) && SeqAt.shaped (.str p.shown)))
inductive Od (κ : Kap) : D → Prop
  | sim {d : D} {p : PyData} {t : String} (h : pdata d = some p) (ok : okP p = true) (ht : tyK d κ = some (.b t)) (no : t = "NoneType" ∨ t = "bool" ∨ t = "str" ∨ t = "tuple" ∨ t = "int") : Od κ d
  | lst {n : Nat} (h : κ n = some (.live .lst [.int 5])) : Od κ (.cell n)
  | dct {n : Nat} (h : κ n = some (.live (.dct []) [])) : Od κ (.cell n)
theorem okP_parts {p : PyData} (h : okP p = true) : p.showable = true ∧ p.depth ≤ 60 ∧ p.shown.length ≤ sizeLine ∧ SeqAt.shaped (.str p.shown) = true := by
  unfold okP at h
  rw [Bool.and_eq_true_iff, Bool.and_eq_true_iff, Bool.and_eq_true_iff] at h
  obtain ⟨h1, h2, h3, h4⟩ := h
  exact ⟨h1, of_decide_eq_true h2, of_decide_eq_true h3, h4⟩
theorem repr_ok {x : D} {p : PyData} {κ : Kap} {Q : DQ} (hp : Pd κ x p) (h : okP p = true) (q : SeqAt.shaped (.str p.shown) = true → Q (.str p.shown) κ) : fRepr [x] κ Q :=
  repr_pd hp (okP_parts h).1 (okP_parts h).2.1 (okP_parts h).2.2.1 (q (okP_parts h).2.2.2)
end DL
namespace DL
open PySem PySem.Spec PyProof.Rows L2
section
variable {δ : DEnv} {κ : Kap} {X : DX} {Q : DQ} {a b : DE} {x y : D} {k : Bool}
theorem e_ifx (ha : ∀ Q : DQ, Q x κ → a δ κ X Q) (hb : ∀ Q : DQ, Q y κ → b δ κ X Q) (h : ∀ z, (k = true → z = x) → (k = false → z = y) → Q z κ) : if k = true then a δ κ X Q else b δ κ X Q := by
  cases k
  · rw [if_neg (by decide)]
    exact hb _ (h y (fun z => by cases z) fun _ => rfl)
  · rw [if_pos rfl]
    exact ha _ (h x (fun _ => rfl) fun z => by cases z)
theorem f_inBr {neg c : Bool} {bs : List Bool} (r : Bool) (e : (if neg = true then !(bs.any fun z => z == c) else bs.any fun z => z == c) = r) (h : Q (.bl r) κ) : fIn neg (.bl c) (.node .lst (bs.map D.bl)) κ Q := f_inBL (by rw [e]; exact h)
theorem fr_at {bx m n : Nat} {κ' : Kap} {c : Cell} (f : Fr bx κ κ') (hB : Bx bx m κ) (e : κ n = some c) (h : ∀ x y z, c ≠ .live .lst [.int x, .int y, .int z]) : κ' n = some c := f _ _ (fun q => by
  obtain ⟨x, y, z, e1, _⟩ := hB
  rw [q, e1] at e
  cases e
  exact h _ _ _ rfl) e
theorem kk {m n : Nat} {c c' : Cell} (e : κ m = some c) (h : κ n = none) : kset κ n c' m = some c := by
  rw [kset_ne (kne e h)]
  exact e
theorem kp {m n : Nat} {c c' : Cell} (e : κ m = some c) (h : m ≠ n) : kset κ n c' m = some c := by
  rw [kset_ne h]
  exact e
theorem kd {m n : Nat} {c c' : Cell} (e : κ m = some c) (e' : κ n = some c') (h : c ≠ c') : m ≠ n := fun q => h (by rw [q, e'] at e; exact (Option.some.inj e).symm)
end
theorem pd_cl {κ : Kap} {n : Nat} {xs : List D} {ps : List PyData} (e : κ n = some (.live .lst xs)) (h : pdataL xs = some ps) : Pd κ (.cell n) (.list ps) := .lst (vw_cell e) (pdL_of h)
theorem pd_cd {κ : Kap} {n : Nat} {ks : List Key} {xs : List D} {ps : List PyData} (e : κ n = some (.live (.dct ks) xs)) (h : pdataL xs = some ps) : Pd κ (.cell n) (.dict ((ks.map keyP).zip ps)) := .dct (vw_cell e) (pdL_of h)
end DL

/-! DR: numbers as rational ones. -/
namespace DL
open PySem PySem.Spec PyProof.Rows L2
def nq (q : Rat) : D := nb q.num q.den
def Sz (k : Nat) (q : Rat) : Prop := q.num.natAbs < 2 ^ k ∧ q.den < 2 ^ k
theorem nq_ok (q : Rat) : NOk q.num q.den := ⟨by have := q.den_pos; omega, q.reduced⟩
theorem nq_int (i : Int) : nq (i : Rat) = .int i := rfl
theorem nq_nd {k : Nat} {q : Rat} (h : Sz k q) : Nd k q.num q.den := ⟨nq_ok q, h.1, by have := h.2; omega⟩
theorem rt_q {u l : Int} (hl : l ≠ 0) : rtn u l = (Rat.divInt u l).num ∧ rtd u l = ((Rat.divInt u l).den : Int) := by
  refine rt_is hl (nq_ok _) ?_
  have h := Rat.num_divInt_den (Rat.divInt u l)
  have hd : ((Rat.divInt u l).den : Int) ≠ 0 := by have := (Rat.divInt u l).den_pos; omega
  exact (Rat.divInt_eq_divInt_iff hd hl).mp h
theorem nb_rt {u l : Int} (hl : l ≠ 0) : nb (rtn u l) (rtd u l) = nq (Rat.divInt u l) := by
  unfold nq
  rw [(rt_q hl).1, (rt_q hl).2]
theorem Sz.divInt {k : Nat} {u l : Int} (hl : l ≠ 0) (h1 : u.natAbs < 2 ^ k) (h2 : l.natAbs < 2 ^ k) : Sz k (Rat.divInt u l) := by
  have n := Nd.rt hl h1 h2
  rw [(rt_q hl).1, (rt_q hl).2] at n
  exact ⟨n.tb, by have := n.bb; omega⟩
theorem Sz.mono {k m : Nat} {q : Rat} (h : Sz k q) (hm : k ≤ m) : Sz m q := ⟨Nat.lt_of_lt_of_le h.1 (Nat.pow_le_pow_right (by decide) hm), Nat.lt_of_lt_of_le h.2 (Nat.pow_le_pow_right (by decide) hm)⟩
theorem Sz.db {k : Nat} {q : Rat} (h : Sz k q) : (q.den : Int).natAbs < 2 ^ k := by have := h.2; omega
theorem Sz.d0 (q : Rat) : (q.den : Int) ≠ 0 := by have := q.den_pos; omega
theorem Sz.int {k : Nat} {i : Int} (h : i.natAbs < 2 ^ k) (hk : 1 ≤ k) : Sz k (i : Rat) := ⟨h, Nat.one_lt_two_pow (by omega)⟩
theorem q_add (p q : Rat) : p + q = Rat.divInt (p.num * q.den + q.num * p.den) (p.den * q.den) := by
  conv => lhs; rw [← Rat.num_divInt_den p, ← Rat.num_divInt_den q]
  exact Rat.divInt_add_divInt _ _ (Sz.d0 p) (Sz.d0 q)
theorem q_sub (p q : Rat) : p - q = Rat.divInt (p.num * q.den - q.num * p.den) (p.den * q.den) := by
  conv => lhs; rw [← Rat.num_divInt_den p, ← Rat.num_divInt_den q]
  exact Rat.divInt_sub_divInt _ _ (Sz.d0 p) (Sz.d0 q)
theorem q_mul (p q : Rat) : p * q = Rat.divInt (p.num * q.num) (p.den * q.den) := by
  conv => lhs; rw [← Rat.num_divInt_den p, ← Rat.num_divInt_den q]
  exact Rat.divInt_mul_divInt _ _
theorem q_div (p q : Rat) : p / q = Rat.divInt (p.num * q.den) (p.den * q.num) := by
  rw [Rat.div_def]
  conv => lhs; rw [← Rat.num_divInt_den p, ← Rat.num_divInt_den q]
  rw [Rat.inv_divInt]
  exact Rat.divInt_mul_divInt _ _
theorem q_num0 {q : Rat} (h : q ≠ 0) : q.num ≠ 0 := fun z => h (Rat.num_eq_zero.mp z)
section
variable {k j : Nat} {p q : Rat}
theorem Sz.dd (p q : Rat) : (p.den : Int) * q.den ≠ 0 := Int.mul_ne_zero (Sz.d0 p) (Sz.d0 q)
theorem Sz.add (h : Sz k p) (h' : Sz j q) : Sz (k + j + 1) (p + q) := by
  rw [q_add]
  exact .divInt (Sz.dd p q) (add_bd (mul_bd h.1 h'.db) (by rw [Nat.add_comm]; exact mul_bd h'.1 h.db)) (bd_mono (mul_bd h.db h'.db) (by omega))
theorem Sz.sub (h : Sz k p) (h' : Sz j q) : Sz (k + j + 1) (p - q) := by
  rw [q_sub]
  exact .divInt (Sz.dd p q) (sub_bd (mul_bd h.1 h'.db) (by rw [Nat.add_comm]; exact mul_bd h'.1 h.db)) (bd_mono (mul_bd h.db h'.db) (by omega))
theorem Sz.mul (h : Sz k p) (h' : Sz j q) : Sz (k + j) (p * q) := by
  rw [q_mul]
  exact .divInt (Sz.dd p q) (mul_bd h.1 h'.1) (mul_bd h.db h'.db)
theorem Sz.div (h : Sz k p) (h' : Sz j q) (h0 : q ≠ 0) : Sz (k + j) (p / q) := by
  rw [q_div]
  exact .divInt (Int.mul_ne_zero (Sz.d0 p) (q_num0 h0)) (mul_bd h.1 h'.db) (mul_bd h.db h'.1)
end
theorem divInt_1 (i : Int) : Rat.divInt i 1 = (i : Rat) := by
  have := Rat.num_divInt_den (i : Rat)
  exact this
theorem divInt_q (a b : Int) : Rat.divInt a b = (a : Rat) / (b : Rat) := by
  rw [q_div]
  show _ = Rat.divInt (a * 1) (1 * b)
  rw [Int.mul_one, Int.one_mul]
theorem nq_inj {p q : Rat} : (p.num = q.num ∧ (p.den : Int) = q.den) ↔ p = q := ⟨fun h => by
  rw [← Rat.num_divInt_den p, ← Rat.num_divInt_den q, h.1, h.2], fun h => by rw [h]; exact ⟨rfl, rfl⟩⟩
/-- one by a whole number -/
theorem nq_inv {s : Int} (h : 0 < s) : nq (1 / (s : Rat)) = nb 1 s := by
  have e : (1 : Rat) / (s : Rat) = Rat.divInt 1 s := (divInt_q 1 s).symm
  rw [e, ← nb_rt (by omega)]
  have := rt_self (a := 1) (b := s) ⟨h, by rw [Int.one_gcd]⟩
  rw [this.1, this.2]
def nqP (q : Rat) : PyData := nbP q.num q.den
theorem nq_pdata (q : Rat) : pdata (nq q) = some (nqP q) := nb_pdata _ _
theorem nqP_sp (q : Rat) : Sp 1 (nqP q) := nbP_sp _ _
theorem nqP_eqv (p q : Rat) : PyData.eqv (nqP p) (nqP q) = decide (p = q) := by
  unfold nqP
  rw [nbP_eqv]
  exact decide_eq_decide.mpr nq_inj
theorem f_eqQ {p q : Rat} {κ : Kap} {Q : DQ} (h : Q (.bl (decide (p = q))) κ) : fEq (nq p) (nq q) κ Q := by
  refine f_eqN ?_
  rw [decide_eq_decide.mpr nq_inj]
  exact h
/-- places: two numbers -/
def plD (x y : Rat) : D := .node .tup [nq x, nq y]
def plP (x y : Rat) : PyData := .tuple [nqP x, nqP y]
theorem plD_pdata (x y : Rat) : pdata (plD x y) = some (plP x y) := pdata_tup (by
  show (match pdata (nq x), pdataL [nq y] with
    | some p, some ps => some (p :: ps)
    | _, _ => none) = _
  rw [nq_pdata]
  show (match some (nqP x), (match pdata (nq y), pdataL [] with
    | some p, some ps => some (p :: ps)
    | _, _ => none) with
    | some p, some ps => some (p :: ps)
    | _, _ => none) = _
  rw [nq_pdata]
  rfl)
theorem plP_sp (x y : Rat) : Sp 2 (plP x y) := Sp.tuple (k := 1) fun p hp => by
  simp only [List.mem_cons, List.not_mem_nil, or_false] at hp
  rcases hp with rfl | rfl <;> exact nqP_sp _
theorem plP_eqv (x y u v : Rat) : PyData.eqv (plP x y) (plP u v) = decide (x = u ∧ y = v) := by
  show (PyData.eqv (nqP x) (nqP u) && (PyData.eqv (nqP y) (nqP v) && true)) = _
  rw [nqP_eqv, nqP_eqv, Bool.and_true, Bool.decide_and]
theorem f_eqPl {x y u v : Rat} {κ : Kap} {Q : DQ} (h : Q (.bl (decide (x = u ∧ y = v))) κ) : fEq (plD x y) (plD u v) κ Q :=
  eq_dat (plD_pdata x y) (plD_pdata u v) ((plP_sp _ _).shaped (by decide)) ((plP_sp _ _).shaped (by decide)) (by rw [plP_eqv]; exact h)
theorem f_nePl {x y u v : Rat} {κ : Kap} {Q : DQ} (h : Q (.bl (!decide (x = u ∧ y = v))) κ) : fNe (plD x y) (plD u v) κ Q :=
  ne_dat (plD_pdata x y) (plD_pdata u v) ((plP_sp _ _).shaped (by decide)) ((plP_sp _ _).shaped (by decide)) (by rw [plP_eqv]; exact h)
end DL
namespace DL
open PySem PySem.Spec PyProof.Rows L2
/-! a box of four -/
section
variable {κ : Kap} {Q : DQ} {d x y z w : D} {xs : List D}
theorem f_ic3 {N : Nat} (e : κ N = some (.live .lst (x :: y :: z :: d :: xs))) (h : Q d κ) : fIx (.cell N) (.int 3) κ Q := by rw [ix_cell e, at_3]; exact h
theorem f_ik3 {N : Nat} (h : Q d (kset κ N (.live .lst (x :: y :: z :: d :: xs)))) : fIx (.cell N) (.int 3) (kset κ N (.live .lst (x :: y :: z :: d :: xs))) Q := f_ic3 kset_same h
theorem f_se3 {N : Nat} {P : Kap → Prop} (e : κ N = some (.live .lst (x :: y :: z :: w :: xs))) (h : P (kset κ N (.live .lst (x :: y :: z :: d :: xs)))) : fSet (.cell N) (.int 3) d κ P := by rw [se_3 e]; exact h
end
def By (b m : Nat) (κ : Kap) : Prop := ∃ x y u z : Int, κ b = some (.live .lst [.int x, .int y, .int u, .int z]) ∧ (0 ≤ y ∧ y < 2 ^ 31) ∧ (0 ≤ u ∧ u < 2 ^ 31) ∧ 0 ≤ z ∧ z ≤ (m : Int)
theorem By.mono {b m m' : Nat} {κ : Kap} (h : By b m κ) (hm : m ≤ m') : By b m' κ := let ⟨x, y, u, z, h1, h2, h3, h4, h5⟩ := h; ⟨x, y, u, z, h1, h2, h3, h4, by omega⟩
theorem By.is {b m : Nat} {κ : Kap} (h : By b m κ) : ∃ k xs, κ b = some (.live k xs) := let ⟨_, _, _, _, h1, _⟩ := h; ⟨_, _, h1⟩
theorem By.ne {b m n : Nat} {κ : Kap} (h : By b m κ) (hn : κ n = none) : n ≠ b := fun e => by obtain ⟨_, _, q⟩ := h.is; rw [e] at hn; rw [hn] at q; cases q
theorem By.set {b m n : Nat} {κ : Kap} {c : Cell} (h : By b m κ) (hn : n ≠ b) : By b m (kset κ n c) := let ⟨x, y, u, z, h1, h2⟩ := h; ⟨x, y, u, z, by rw [kset_ne hn.symm]; exact h1, h2⟩
/-! multi-clause steps -/
section
variable {δ : DEnv} {κ : Kap} {X : DX} {Q : DQ} {it : DI} {t : TN} {tt : DT} {vs : List Nat} {rest : DK} {K : Kap → Prop} {a e : DE} {as : DA} {n : Nat} {gd : Kap → Prop} {items : List D} {d : D}
theorem e_lcG {r : Nat → DK} (h : it δ κ X fun items gd κ1 => ∀ n, κ1 n = none → cLoop t tt vs (r n) gd δ (fun κ' => ∃ acc, κ' n = some (.live .lst acc) ∧ Q (.node .lst acc) (kset κ' n .dead)) items (kset κ1 n (.live .lst []))) : dLcG false it t tt r vs δ κ X Q := h
theorem k_for (h : it δ κ XF fun items gd κ1 => cLoop t tt vs rest gd δ K items κ1) : cFor it t tt vs rest δ κ K := h
theorem k_elt (h : e δ κ XF fun y κ3 => ∃ acc, κ3 n = some (.live .lst acc) ∧ acc.length < sizeLine ∧ K (kset κ3 n (.live .lst (acc ++ [y])))) : cElt n e δ κ K := h
theorem cLoop_ind (I : List D → Kap → Prop) (h0 : ∀ κ, I [] κ → gd κ ∧ K κ)
    (hs : ∀ d ds κ (L : Kap → Prop), (∀ κ, I ds κ → L κ) → I (d :: ds) κ → gd κ ∧ ∃ δ1, bindT t d (dwipe δ vs) κ = some δ1 ∧ tt δ1 κ XF fun b κ2 => if b = true then rest δ1 κ2 L else L κ2) : ∀ ds κ, I ds κ → cLoop t tt vs rest gd δ K ds κ
  | [], κ, h => h0 κ h
  | d :: ds, κ, h => hs d ds κ _ (cLoop_ind I h0 hs ds) h
theorem cl_ix (I : Nat → Kap → Prop) (h0 : ∀ κ, I items.length κ → gd κ ∧ K κ)
    (hs : ∀ i d κ (L : Kap → Prop), items[i]? = some d → (∀ κ, I (i + 1) κ → L κ) → I i κ → gd κ ∧ ∃ δ1, bindT t d (dwipe δ vs) κ = some δ1 ∧ tt δ1 κ XF fun b κ2 => if b = true then rest δ1 κ2 L else L κ2) (h : I 0 κ) : cLoop t tt vs rest gd δ K items κ := by
  refine cLoop_ind (fun ds κ => ∃ i, ds = items.drop i ∧ i ≤ items.length ∧ I i κ) ?_ ?_ items κ ⟨0, rfl, Nat.zero_le _, h⟩
  · rintro κ ⟨i, e, hi, h⟩
    have : i = items.length := by
      have := congrArg List.length e
      simp at this
      omega
    subst this
    exact h0 κ h
  · rintro d ds κ L hL ⟨i, e, hi, h⟩
    have hlt : i < items.length := by
      have := congrArg List.length e
      simp at this
      omega
    rw [List.drop_eq_getElem_cons hlt] at e
    injection e with e1 e2
    exact hs i d κ L (by rw [e1]; exact List.getElem?_eq_getElem hlt) (fun κ q => hL κ ⟨i + 1, e2, hlt, q⟩) h
theorem i_en {QI : List D → (Kap → Prop) → Kap → Prop} (h : as δ κ X (eQ QI)) : iEnumD as δ κ X QI := h
theorem en_N {QI : List D → (Kap → Prop) → Kap → Prop} {ys : List D} (h : QI (enumD 0 ys) gTrue κ) : eQ QI [.node .lst ys] κ := h
theorem en_C {QI : List D → (Kap → Prop) → Kap → Prop} {ys : List D} (e : κ n = some (.live .lst ys)) (h : QI (enumD 0 ys) (fun κ => κ n = some (.live .lst ys)) κ) : eQ QI [.cell n] κ := ⟨ys, e, h⟩
theorem e_tupOf (h : a δ κ X fun x κ1 => fTup x κ1 Q) : dTupOf a δ κ X Q := h
theorem tp_L {ys : List D} (h : Q (.node .tup ys) κ) : fTup (.node .lst ys) κ Q := .inl ⟨ys, rfl, h⟩
theorem tp_T {ys : List D} (h : Q (.node .tup ys) κ) : fTup (.node .tup ys) κ Q := .inr ⟨ys, rfl, h⟩
theorem tp_C {ys : List D} (e : κ n = some (.live .lst ys)) (h : Q (.node .tup ys) κ) : fTup (.cell n) κ Q := .inl ⟨ys, vw_cell e, h⟩
theorem e_rev {m : Bool} (h : a δ κ X fun x κ1 => fRev m x κ1 Q) : dRev m a δ κ X Q := h
theorem rv_N {ys : List D} (h : Q (.node .lst ys.reverse) κ) : fRev false (.node .lst ys) κ Q := ⟨ys, rfl, h⟩
theorem rv_C {ys : List D} (e : κ n = some (.live .lst ys)) (h : Q (.node .lst ys.reverse) κ) : fRev false (.cell n) κ Q := ⟨ys, vw_cell e, h⟩
theorem q_cell {QI : List D → (Kap → Prop) → Kap → Prop} {ys : List D} (e : κ n = some (.live .lst ys)) (h : QI ys (fun κ => κ n = some (.live .lst ys)) κ) : sQ QI (.cell n) κ := by
  unfold sQ
  simp only [e]
  exact h
theorem sl_N {m : Bool} {ys : List D} {lo hi : Option Int} (h : fNew m .lst (cutD ys lo hi) κ Q) : fSl m (.node .lst ys) lo hi κ Q := h
theorem sl_C {m : Bool} {ys : List D} {lo hi : Option Int} (e : κ n = some (.live .lst ys)) (h : fNew m .lst (cutD ys lo hi) κ Q) : fSl m (.cell n) lo hi κ Q := by
  unfold fSl
  simp only [vw_cell e]
  exact h
theorem s_aug {i : Nat} {f : D2} {x : D} {nx : DEnv → Kap → Prop} {rt : DQ} {bk ct : DEnv → Kap → Prop} (e0 : δ[i]? = some (some x)) (h : a δ κ X fun y κ1 => f x y κ1 fun z κ2 => nx (δ.set i (some z)) κ2) : sAug i f a δ κ X ⟨nx, rt, bk, ct⟩ := ⟨x, e0, h⟩
theorem f_adII {i j : Int} (h : Q (.int (i + j)) κ) : fAddI (.int i) (.int j) κ Q := ⟨i, j, rfl, rfl, h⟩
end
end DL
namespace DL
open PySem PySem.Spec PyProof.Rows L2
/-! what can be walked -/
def Fa (κ κ' : Kap) : Prop := ∀ n c, κ n = some c → κ' n = some c
theorem Fa.refl {κ : Kap} : Fa κ κ := fun _ _ h => h
theorem Fa.trans {κ κ1 κ2 : Kap} (h : Fa κ κ1) (g : Fa κ1 κ2) : Fa κ κ2 := fun n c e => g n c (h n c e)
theorem Fa.new {κ : Kap} {n : Nat} {c : Cell} (h : κ n = none) : Fa κ (kset κ n c) := fun m d e => by rw [kset_ne (kne e h)]; exact e
theorem Fa.put {κ κ' : Kap} {n : Nat} {c : Cell} (f : Fa κ κ') (h : κ n = none) : Fa κ (kset κ' n c) := fun m d e => by rw [kset_ne (kne e h)]; exact f m d e
inductive Wk (κ : Kap) : D → List D → Prop
  | lst {xs : List D} : Wk κ (.node .lst xs) xs
  | tup {xs : List D} : Wk κ (.node .tup xs) xs
  | cell {n : Nat} {xs : List D} (h : κ n = some (.live .lst xs)) : Wk κ (.cell n) xs
theorem Wk.mono {κ κ' : Kap} {d : D} {xs : List D} (h : Wk κ d xs) (f : Fa κ κ') : Wk κ' d xs := by
  cases h with
  | lst => exact .lst
  | tup => exact .tup
  | cell e => exact .cell (f _ _ e)
theorem q_wk {κ : Kap} {d : D} {xs : List D} {QI : List D → (Kap → Prop) → Kap → Prop} (h : Wk κ d xs) (q : ∀ gd : Kap → Prop, (∀ κ', Fa κ κ' → gd κ') → QI xs gd κ) : sQ QI d κ := by
  cases h with
  | lst => exact q_L (q _ fun _ _ => trivial)
  | tup => exact q_T (q _ fun _ _ => trivial)
  | cell e => exact q_cell e (q _ fun κ' f => f _ _ e)
theorem f_lnW {κ : Kap} {d : D} {xs : List D} {Q : DQ} (h : Wk κ d xs) (q : Q (.int (xs.length : Nat)) κ) : fLen [d] κ Q := by
  cases h with
  | lst => exact q
  | tup => exact q
  | cell e => exact f_lnC e q
end DL
namespace DL
open PySem PySem.Spec PyProof.Rows L2
theorem q_wk2 {κ0 κ : Kap} {d : D} {xs : List D} {QI : List D → (Kap → Prop) → Kap → Prop} (h : Wk κ0 d xs) (f : Fa κ0 κ) (q : ∀ gd : Kap → Prop, (∀ κ', Fa κ0 κ' → gd κ') → QI xs gd κ) : sQ QI d κ := by
  cases h with
  | lst => exact q_L (q _ fun _ _ => trivial)
  | tup => exact q_T (q _ fun _ _ => trivial)
  | cell e => exact q_cell (f _ _ e) (q _ fun κ' f' => f' _ _ e)
end DL
namespace DL
open PySem PySem.Spec PyProof.Rows L2
section
variable {δ : DEnv} {κ : Kap} {t : TN} {tt : DT} {vs : List Nat} {rest : DK} {K : Kap → Prop} {gd : Kap → Prop} {items : List D} {d : D}
theorem cl_cons (hg : gd κ) (h : ∃ δ1, bindT t d (dwipe δ vs) κ = some δ1 ∧ tt δ1 κ XF fun b κ2 => if b = true then rest δ1 κ2 (cLoop t tt vs rest gd δ K items) else cLoop t tt vs rest gd δ K items κ2) : cLoop t tt vs rest gd δ K (d :: items) κ := ⟨hg, h⟩
theorem cl_nil (hg : gd κ) (h : K κ) : cLoop t tt vs rest gd δ K [] κ := ⟨hg, h⟩
end
end DL
namespace DL
open PySem PySem.Spec PyProof.Rows L2
/-- the place ahead, the last one ahead of the first -/
def prevI (n i : Nat) : Nat := if i = 0 then n - 1 else i - 1
theorem at_prev {α : Type} {xs : List α} {i : Nat} {a : α} (hi : i < xs.length) (h : xs[prevI xs.length i]? = some a) : atI xs ((i : Int) - 1) = some a := by
  unfold prevI at h
  by_cases h0 : i = 0
  · subst h0
    rw [if_pos rfl] at h
    unfold atI ixN
    rw [if_neg (by omega), if_pos (by omega)]
    have e : ((xs.length : Int) + (((0 : Nat) : Int) - 1)).toNat = xs.length - 1 := by omega
    first
      | (rw [e]; exact h)
      | (show xs[_]? = _; rw [show ((((0 : Nat) : Int) - 1) + (xs.length : Int)).toNat = xs.length - 1 by omega]; exact h)
  · rw [if_neg h0] at h
    rw [show (i : Int) - 1 = ((i - 1 : Nat) : Int) by omega]
    exact at_nat h
def cr (p q : Int × Int) : Int := p.1 * q.2 - p.2 * q.1
def sumTo (ps : List (Int × Int)) : Nat → Int
  | 0 => 0
  | i + 1 => sumTo ps i + cr (ps.getD (prevI ps.length i) (0, 0)) (ps.getD i (0, 0))
def prD (p : Int × Int) : D := .node .tup [.int p.1, .int p.2]
def sgI (s : Int) : Int := (if decide (0 < s) = true then 1 else 0) - (if decide (s < 0) = true then 1 else 0)
end DL
namespace DL
open PySem PySem.Spec PyProof.Rows L2
/-! areas of rounds -/
/-- along a row of points -/
def pth (a : Int × Int) : List (Int × Int) → Int
  | [] => 0
  | b :: r => cr a b + pth b r
def lastP (a : Int × Int) : List (Int × Int) → Int × Int
  | [] => a
  | b :: r => lastP b r
def areaL : List (Int × Int) → Int
  | [] => 0
  | p :: r => pth p (r ++ [p])
theorem pth_app (b : Int × Int) (r : List (Int × Int)) : ∀ (l : List (Int × Int)) (a : Int × Int), pth a (l ++ b :: r) = pth a (l ++ [b]) + pth b r
  | [], a => by show cr a b + pth b r = cr a b + 0 + pth b r; omega
  | c :: l, a => by
    show cr a c + pth c (l ++ b :: r) = cr a c + pth c (l ++ [b]) + pth b r
    rw [pth_app b r l c]; omega
theorem pth_snoc (b : Int × Int) : ∀ (l : List (Int × Int)) (a : Int × Int), pth a (l ++ [b]) = pth a l + cr (lastP a l) b
  | [], a => by show cr a b + 0 = 0 + cr a b; omega
  | c :: l, a => by
    show cr a c + pth c (l ++ [b]) = cr a c + pth c l + cr (lastP c l) b
    rw [pth_snoc b l c]; omega
theorem area_rot (l m : List (Int × Int)) : areaL (l ++ m) = areaL (m ++ l) := by
  cases l with
  | nil => simp
  | cons a l =>
    cases m with
    | nil => simp
    | cons b m =>
      show pth a (l ++ b :: m ++ [a]) = pth b (m ++ a :: l ++ [b])
      have h1 := pth_app b (m ++ [a]) l a
      have h2 := pth_app a (l ++ [b]) m b
      rw [List.append_assoc, List.append_assoc, List.cons_append, List.cons_append]
      omega
theorem cr_swap (a b : Int × Int) : cr a b = - cr b a := by unfold cr; grind
theorem pth_rev (b : Int × Int) : ∀ (l : List (Int × Int)) (a : Int × Int), pth b (l.reverse ++ [a]) = - pth a (l ++ [b])
  | [], a => by show cr b a + 0 = -(cr a b + 0); rw [cr_swap b a]; omega
  | c :: l, a => by
    show _ = -(cr a c + pth c (l ++ [b]))
    rw [List.reverse_cons, List.append_assoc, List.cons_append, List.nil_append, pth_app, pth_rev b l c]
    show _ + (cr c a + 0) = _
    rw [cr_swap c a]; omega
theorem area_rev (l : List (Int × Int)) : areaL l.reverse = - areaL l := by
  cases l with
  | nil => rfl
  | cons p r =>
    rw [List.reverse_cons, area_rot]
    show pth p (r.reverse ++ [p]) = - pth p (r ++ [p])
    exact pth_rev p r p
def shP (t : Int × Int) (g : Int) (p : Int × Int) : Int × Int := ((p.1 + t.1) * g, (p.2 + t.2) * g)
theorem pth_sh (t : Int × Int) (g : Int) : ∀ (l : List (Int × Int)) (a : Int × Int), pth (shP t g a) (l.map (shP t g)) = g * g * (pth a l + cr t (lastP a l) - cr t a)
  | [], a => by show 0 = g * g * (0 + cr t a - cr t a); grind
  | b :: l, a => by
    show cr (shP t g a) (shP t g b) + pth (shP t g b) (l.map (shP t g)) = g * g * (cr a b + pth b l + cr t (lastP b l) - cr t a)
    rw [pth_sh t g l b]
    unfold cr shP
    grind
theorem lastP_snoc (b : Int × Int) : ∀ (l : List (Int × Int)) (a : Int × Int), lastP a (l ++ [b]) = b
  | [], _ => rfl
  | c :: l, _ => lastP_snoc b l c
theorem area_sh (t : Int × Int) (g : Int) (l : List (Int × Int)) : areaL (l.map (shP t g)) = g * g * areaL l := by
  cases l with
  | nil => show 0 = g * g * 0; grind
  | cons p r =>
    show pth (shP t g p) (r.map (shP t g) ++ [shP t g p]) = g * g * pth p (r ++ [p])
    have := pth_sh t g (r ++ [p]) p
    rw [lastP_snoc, List.map_append] at this
    rw [show r.map (shP t g) ++ [shP t g p] = r.map (shP t g) ++ [p].map (shP t g) from rfl, this]
    grind
theorem lastP_take (p : Int × Int) (r : List (Int × Int)) : ∀ j, j < (p :: r).length → lastP p (r.take j) = (p :: r).getD j (0, 0) := by
  intro j hj
  induction j generalizing p r with
  | zero => rfl
  | succ j ih =>
    cases r with
    | nil => simp at hj
    | cons b r =>
      show lastP b (r.take j) = (b :: r).getD j (0, 0)
      exact ih b r (by simp at hj ⊢; omega)
theorem take_succD (r : List (Int × Int)) (j : Nat) (h : j < r.length) : r.take (j + 1) = r.take j ++ [r.getD j (0, 0)] := by
  rw [List.take_add_one, List.getElem?_eq_getElem h, List.getD_eq_getElem?_getD, List.getElem?_eq_getElem h]
  rfl
theorem sumTo_area (ps : List (Int × Int)) : DL.sumTo ps ps.length = areaL ps := by
  cases ps with
  | nil => rfl
  | cons p r =>
    have key : ∀ j, j ≤ r.length → DL.sumTo (p :: r) (j + 1) = cr ((p :: r).getD r.length (0, 0)) p + pth p (r.take j) := by
      intro j
      induction j with
      | zero =>
        intro _
        show 0 + cr ((p :: r).getD (prevI (p :: r).length 0) (0, 0)) p = _ + 0
        unfold prevI
        rw [if_pos rfl]
        simp
      | succ j ih =>
        intro hj
        show DL.sumTo (p :: r) (j + 1) + cr ((p :: r).getD (prevI (p :: r).length (j + 1)) (0, 0)) ((p :: r).getD (j + 1) (0, 0)) = _
        rw [ih (by omega), take_succD r j (by omega), pth_snoc, lastP_take p r j (by simp; omega)]
        unfold prevI
        rw [if_neg (by omega)]
        show _ + cr ((p :: r).getD j (0, 0)) (r.getD j (0, 0)) = _
        omega
    have h1 := key r.length (Nat.le_refl _)
    rw [List.take_length] at h1
    show DL.sumTo (p :: r) (r.length + 1) = pth p (r ++ [p])
    rw [h1, pth_snoc]
    have h2 := lastP_take p r r.length (by simp)
    rw [List.take_length] at h2
    rw [h2]
    omega
/-- the place behind, the first one behind the last -/
def sumNx (ps : List (Int × Int)) : Nat → Int
  | 0 => 0
  | i + 1 => sumNx ps i + (ps.getD i (0, 0)).1 * (ps.getD ((i + 1) % ps.length) (0, 0)).2 - (ps.getD i (0, 0)).2 * (ps.getD ((i + 1) % ps.length) (0, 0)).1
theorem sumNx_area (ps : List (Int × Int)) : sumNx ps ps.length = areaL ps := by
  cases ps with
  | nil => rfl
  | cons p r =>
    have key : ∀ j, j ≤ r.length → sumNx (p :: r) j = pth p (r.take j) := by
      intro j
      induction j with
      | zero => intro _; rfl
      | succ j ih =>
        intro hj
        rw [take_succD r j (by omega), pth_snoc, lastP_take p r j (by simp; omega)]
        show sumNx (p :: r) j + _ - _ = _
        rw [ih (by omega)]
        have : (j + 1) % (p :: r).length = j + 1 := Nat.mod_eq_of_lt (by simp; omega)
        rw [this]
        show _ + ((p :: r).getD j (0, 0)).1 * (r.getD j (0, 0)).2 - ((p :: r).getD j (0, 0)).2 * (r.getD j (0, 0)).1 = _
        unfold cr
        omega
    have h1 := key r.length (Nat.le_refl _)
    rw [List.take_length] at h1
    show sumNx (p :: r) r.length + _ - _ = pth p (r ++ [p])
    rw [h1, pth_snoc]
    have h2 := lastP_take p r r.length (by simp)
    rw [List.take_length] at h2
    rw [h2]
    have : (r.length + 1) % (p :: r).length = 0 := by simp
    rw [this]
    show _ + ((p :: r).getD r.length (0, 0)).1 * p.2 - ((p :: r).getD r.length (0, 0)).2 * p.1 = _
    unfold cr
    omega
end DL
namespace DL
open PySem PySem.Spec PyProof.Rows L2
/-! signs -/
theorem sgI_of {a b c d : Int} (hc : 0 < c) (hd : 0 < d) (h : c * a = d * b) : sgI a = sgI b := by
  have h1 : 0 < a ↔ 0 < b := ⟨fun z => by
    have : 0 < d * b := by rw [← h]; exact Int.mul_pos hc z
    exact Int.pos_of_mul_pos_left (by rw [Int.mul_comm]; exact this) hd, fun z => by
    have : 0 < c * a := by rw [h]; exact Int.mul_pos hd z
    exact Int.pos_of_mul_pos_left (by rw [Int.mul_comm]; exact this) hc⟩
  have h2 : a < 0 ↔ b < 0 := by
    have h3 : a = 0 ↔ b = 0 := ⟨fun z => by
      rw [z, Int.mul_zero] at h
      rcases Int.mul_eq_zero.mp h.symm with q | q
      · omega
      · exact q, fun z => by
      rw [z, Int.mul_zero] at h
      rcases Int.mul_eq_zero.mp h with q | q
      · omega
      · exact q⟩
    omega
  unfold sgI
  rw [decide_eq_decide.mpr h1, decide_eq_decide.mpr h2]
theorem sgI_neg (a : Int) : sgI (-a) = 0 - sgI a := by
  unfold sgI
  by_cases h : 0 < a
  · rw [decide_eq_true h, decide_eq_false (show ¬ (0 < -a) by omega), decide_eq_true (show -a < 0 by omega), decide_eq_false (show ¬ a < 0 by omega)]
    rfl
  · by_cases h' : a < 0
    · rw [decide_eq_false h, decide_eq_true (show 0 < -a by omega), decide_eq_false (show ¬ -a < 0 by omega), decide_eq_true h']
      rfl
    · rw [decide_eq_false h, decide_eq_false (show ¬ 0 < -a by omega), decide_eq_false (show ¬ -a < 0 by omega), decide_eq_false h']
      rfl
/-- a point over a base -/
def tq (b : Int) (p : Int × Int) : Rat × Rat := (Rat.divInt p.1 b, Rat.divInt p.2 b)
theorem whole_mul {x b : Int} {M : Nat} (hb : 0 < b) (hd : (Rat.divInt x b).den ∣ M) : (Rat.divInt x b).num * (M : Int).fdiv ((Rat.divInt x b).den : Nat) * b = x * M := by
  have h := Rat.num_divInt_den (Rat.divInt x b)
  have hd0 : ((Rat.divInt x b).den : Int) ≠ 0 := Sz.d0 _
  have hc := (Rat.divInt_eq_divInt_iff hd0 (show b ≠ 0 by omega)).mp h
  obtain ⟨c, rfl⟩ := hd
  generalize (Rat.divInt x b).num = n at hc ⊢
  generalize hD : (Rat.divInt x b).den = D at hc hd0 ⊢
  have e : (((D * c : Nat)) : Int).fdiv (D : Nat) = (c : Int) := by
    rw [Int.natCast_mul]
    exact Int.mul_fdiv_cancel_left _ hd0
  rw [e, Int.natCast_mul]
  calc n * (c : Int) * b = (n * b) * c := by grind
    _ = x * (D : Int) * c := by rw [hc]
    _ = x * ((D : Int) * c) := by grind
theorem den_dvd {x b : Int} (hb : 0 < b) : (Rat.divInt x b).den ∣ b.natAbs := by
  have h := (rt_q (u := x) (l := b) (by omega)).2
  have h2 := rtd_mul x b
  rw [h] at h2
  refine ⟨(cpt x b).natAbs, ?_⟩
  have h3 := congrArg Int.natAbs h2
  rw [Int.natAbs_mul] at h3
  exact h3.symm
end DL

namespace L_k25
open PySem PySem.Spec PyProof.Rows L2 DL
def topS (i : Nat) : Stmt := PySem.Challenge.pw_hintedpoints_k25_first_two_that_cross.main.body.getD i (.Pass ⟨0, 0, 0, 0⟩)
def ktab : List KRow := []
def kt : KTab := ktOf ktab
structure Tz (K : PySem.W.Frag) (mg : Str → Option Value) : Prop where
  kit : KitT K mg kt
  z_abs : mg "abs" = none
  z_all : mg "all" = none
  z_any : mg "any" = none
  z_bool : mg "bool" = none
  z_enumerate : mg "enumerate" = none
  z_int : mg "int" = none
  z_isinstance : mg "isinstance" = none
  z_len : mg "len" = none
  z_list : mg "list" = none
  z_max : mg "max" = none
  z_min : mg "min" = none
  z_range : mg "range" = none
  z_repr : mg "repr" = none
  z_sorted : mg "sorted" = none
  z_tuple : mg "tuple" = none
  z_zip : mg "zip" = none
  g_MOST_PLACES : ∃ t, mg "MOST_PLACES" = some (.int 100 t)
  g_MOST_POLYGONS : ∃ t, mg "MOST_POLYGONS" = some (.int 4 t)

/-! is_plain -/
abbrev s_is_plain : Stmt := topS 5
theorem sc_is_plain : FnScope ["thing"] ["thing"] (defScope s_is_plain) := ⟨rfl, rfl, rfl, by decide +kernel, rfl, by decide +kernel, by decide +kernel⟩
def b_is_plain : DS := (sRet (dAnd (dB (fIsi kt) (dCons (dVar 0) (dCons (dC (.ty "int")) dNil))) (dNot (dB (fIsi kt) (dCons (dVar 0) (dCons (dC (.ty "bool")) dNil))))))
def sp_is_plain : DSp := spOf 1 1 b_is_plain
theorem fn_is_plain {P : Program} {w : World} {K : PySem.W.Frag} {mg : Str → Option Value} {base : Heap} {f : Addr} {fd : FuncData} (T : Tz K mg) (D : DefAt K mg "is_plain" s_is_plain f fd) (sm : ∃ o, base.get? sysModules = some o)  : FnG P w K mg base 1 f fd ["thing"] sp_is_plain :=
  Fn_ok (k := 0) (b := b_is_plain) D.F sc_is_plain sm fun cdv A outer s H E G => (sd_one (sd_ret (pd_and (pd_callB (call_isiD T.kit) sim_isi T.z_isinstance (pa_consD (pd_var 0) (pa_consD (pd_tyName T.z_int) pa_nilD))) (pd_one (pd_not (pd_callB (call_isiD T.kit) sim_isi T.z_isinstance (pa_consD (pd_var 0) (pa_consD (pd_tyName T.z_bool) pa_nilD))))))))
theorem ok_is_plain {P : Program} {w : World} {K : PySem.W.Frag} {mg : Str → Option Value} {base : Heap} {f : Addr} {fd : FuncData} (T : Tz K mg) (D : DefAt K mg "is_plain" s_is_plain f fd) (sm : ∃ o, base.get? sysModules = some o)  : Ok P w K mg base 1 "is_plain" ["thing"] sp_is_plain := ok_mk D (fn_is_plain T D sm ) (fun _ _ _ _ _ _ us hl => match us, hl with | [_], _ => rfl)
/-! common_part -/
abbrev s_common_part : Stmt := topS 6
theorem sc_common_part : FnScope ["one", "other"] ["one", "other"] (defScope s_common_part) := ⟨rfl, rfl, rfl, by decide +kernel, rfl, by decide +kernel, by decide +kernel⟩
def b_common_part : DS := (sSeq (sPar 0 1 (dCons (dB fAbs (dCons (dVar 0) dNil)) (dCons (dB fAbs (dCons (dVar 1) dNil)) dNil))) (sSeq (sWhile (tBl (dOp fNe (dVar 1) (dC (.int 0)))) (sPar 0 1 (dCons (dVar 1) (dCons (dOp fMod (dVar 0) (dVar 1)) dNil)))) (sRet (dVar 0))))
def sp_common_part : DSp := spOf 2 2 b_common_part
theorem fn_common_part {P : Program} {w : World} {K : PySem.W.Frag} {mg : Str → Option Value} {base : Heap} {f : Addr} {fd : FuncData} (T : Tz K mg) (D : DefAt K mg "common_part" s_common_part f fd) (sm : ∃ o, base.get? sysModules = some o)  : FnG P w K mg base 1 f fd ["one", "other"] sp_common_part :=
  Fn_ok (k := 0) (b := b_common_part) D.F sc_common_part sm fun cdv A outer s H E G => (sd_cons (sd_par 0 1 (fun _ h => ps_par G.calm G.nd rfl rfl (by decide) rfl rfl h (by rfl)) (pa_consD (pd_callB call_abs sim_abs T.z_abs (pa_consD (pd_var 0) pa_nilD)) (pa_consD (pd_callB call_abs sim_abs T.z_abs (pa_consD (pd_var 1) pa_nilD)) pa_nilD))) (sd_cons (sd_while G (pt_ne G (pd_var 1) pd_int) (sd_one (sd_par 0 1 (fun _ h => ps_par G.calm G.nd rfl rfl (by decide) rfl rfl h (by rfl)) (pa_consD (pd_var 1) (pa_consD (pd_mod (pd_var 0) (pd_var 1)) pa_nilD))))) (sd_one (sd_ret (pd_var 0)))))
theorem ok_common_part {P : Program} {w : World} {K : PySem.W.Frag} {mg : Str → Option Value} {base : Heap} {f : Addr} {fd : FuncData} (T : Tz K mg) (D : DefAt K mg "common_part" s_common_part f fd) (sm : ∃ o, base.get? sysModules = some o)  : Ok P w K mg base 1 "common_part" ["one", "other"] sp_common_part := ok_mk D (fn_common_part T D sm ) (fun _ _ _ _ _ _ us hl => match us, hl with | [_, _], _ => rfl)
/-! is_part -/
abbrev s_is_part : Stmt := topS 7
theorem sc_is_part : FnScope ["thing", "top", "base"] ["thing"] (defScope s_is_part) := ⟨rfl, rfl, rfl, by decide +kernel, rfl, by decide +kernel, by decide +kernel⟩
def b_is_part : DS := (sSeq (sIf (tOrD (tNotD (tTru (dB (fIsi kt) (dCons (dVar 0) (dCons (dC (.ty "tuple")) dNil))))) (tBl (dOp fNe (dB fLen (dCons (dVar 0) dNil)) (dC (.int 2))))) (sRet (dC (.bl false))) sNil) (sSeq (sAsg (dVar 0) (gTupD 2 (gConsD (gN 1) (gConsD (gN 2) gNilD)))) (sRet (dAnd (dCall sp_is_plain [] (dCons (dVar 1) dNil)) (dAnd (dCall sp_is_plain [] (dCons (dVar 2) dNil)) (dAnd (dOp fGtS (dVar 2) (dC (.int 1))) (dOp fEq (dCall sp_common_part [] (dCons (dVar 1) (dCons (dVar 2) dNil))) (dC (.int 1)))))))))
def sp_is_part : DSp := spOf 3 1 b_is_part
theorem fn_is_part {P : Program} {w : World} {K : PySem.W.Frag} {mg : Str → Option Value} {base : Heap} {f : Addr} {fd : FuncData} (T : Tz K mg) (D : DefAt K mg "is_part" s_is_part f fd) (sm : ∃ o, base.get? sysModules = some o) (O_common_part : Ok P w K mg base 1 "common_part" ["one", "other"] sp_common_part) (O_is_plain : Ok P w K mg base 1 "is_plain" ["thing"] sp_is_plain) : FnG P w K mg base 2 f fd ["thing"] sp_is_part :=
  Fn_ok (k := 1) (b := b_is_part) D.F sc_is_part sm fun cdv A outer s H E G => (sd_cons (sd_if (PW.pt (pw_orD (pt_notD (pt_truD (pd_callB (call_isiD T.kit) sim_isi T.z_isinstance (pa_consD (pd_var 0) (pa_consD (pd_tyName T.z_tuple) pa_nilD))))) (pw_or1D (pt_ne G (pd_callB call_len sim_len T.z_len (pa_consD (pd_var 0) pa_nilD)) pd_int)))) (sd_one (sd_ret pd_bl)) sd_nil) (sd_cons (sd_asg (pd_var 0) (pg_tupD G.calm (pgs_consD (pg_nameD (i := 1) G.nd) (pgs_consD (pg_nameD (i := 2) G.nd) pgs_nilD)))) (sd_one (sd_ret (pd_and (pd_callN G (O_is_plain.mono (by decide)) (pa_consD (pd_var 1) pa_nilD)) (pd_and (pd_callN G (O_is_plain.mono (by decide)) (pa_consD (pd_var 2) pa_nilD)) (pd_and (pd_gt (pd_var 2) pd_int) (pd_one (pd_eq G (pd_callN G (O_common_part.mono (by decide)) (pa_consD (pd_var 1) (pa_consD (pd_var 2) pa_nilD))) pd_int)))))))))
theorem ok_is_part {P : Program} {w : World} {K : PySem.W.Frag} {mg : Str → Option Value} {base : Heap} {f : Addr} {fd : FuncData} (T : Tz K mg) (D : DefAt K mg "is_part" s_is_part f fd) (sm : ∃ o, base.get? sysModules = some o) (O_common_part : Ok P w K mg base 1 "common_part" ["one", "other"] sp_common_part) (O_is_plain : Ok P w K mg base 1 "is_plain" ["thing"] sp_is_plain) : Ok P w K mg base 2 "is_part" ["thing"] sp_is_part := ok_mk D (fn_is_part T D sm O_common_part O_is_plain) (fun _ _ _ _ _ _ us hl => match us, hl with | [_], _ => rfl)
/-! is_number -/
abbrev s_is_number : Stmt := topS 8
theorem sc_is_number : FnScope ["thing"] ["thing"] (defScope s_is_number) := ⟨rfl, rfl, rfl, by decide +kernel, rfl, by decide +kernel, by decide +kernel⟩
def b_is_number : DS := (sRet (dOr (dCall sp_is_plain [] (dCons (dVar 0) dNil)) (dCall sp_is_part [] (dCons (dVar 0) dNil))))
def sp_is_number : DSp := spOf 1 1 b_is_number
theorem fn_is_number {P : Program} {w : World} {K : PySem.W.Frag} {mg : Str → Option Value} {base : Heap} {f : Addr} {fd : FuncData} (T : Tz K mg) (D : DefAt K mg "is_number" s_is_number f fd) (sm : ∃ o, base.get? sysModules = some o) (O_is_part : Ok P w K mg base 2 "is_part" ["thing"] sp_is_part) (O_is_plain : Ok P w K mg base 1 "is_plain" ["thing"] sp_is_plain) : FnG P w K mg base 3 f fd ["thing"] sp_is_number :=
  Fn_ok (k := 2) (b := b_is_number) D.F sc_is_number sm fun cdv A outer s H E G => (sd_one (sd_ret (pd_or (pd_callN G (O_is_plain.mono (by decide)) (pa_consD (pd_var 0) pa_nilD)) (pd_one (pd_callN G (O_is_part.mono (by decide)) (pa_consD (pd_var 0) pa_nilD))))))
theorem ok_is_number {P : Program} {w : World} {K : PySem.W.Frag} {mg : Str → Option Value} {base : Heap} {f : Addr} {fd : FuncData} (T : Tz K mg) (D : DefAt K mg "is_number" s_is_number f fd) (sm : ∃ o, base.get? sysModules = some o) (O_is_part : Ok P w K mg base 2 "is_part" ["thing"] sp_is_part) (O_is_plain : Ok P w K mg base 1 "is_plain" ["thing"] sp_is_plain) : Ok P w K mg base 3 "is_number" ["thing"] sp_is_number := ok_mk D (fn_is_number T D sm O_is_part O_is_plain) (fun _ _ _ _ _ _ us hl => match us, hl with | [_], _ => rfl)
/-! is_list -/
abbrev s_is_list : Stmt := topS 10
theorem sc_is_list : FnScope ["thing", "low", "high"] ["thing", "low", "high"] (defScope s_is_list) := ⟨rfl, rfl, rfl, by decide +kernel, rfl, by decide +kernel, by decide +kernel⟩
def b_is_list : DS := (sRet (dAnd (dB (fIsi kt) (dCons (dVar 0) (dCons (dTup (dCons (dC (.ty "list")) (dCons (dC (.ty "tuple")) dNil))) dNil))) (dChain fLeS fLeS (dVar 1) (dB fLen (dCons (dVar 0) dNil)) (dVar 2))))
def sp_is_list : DSp := spOf 3 3 b_is_list
theorem fn_is_list {P : Program} {w : World} {K : PySem.W.Frag} {mg : Str → Option Value} {base : Heap} {f : Addr} {fd : FuncData} (T : Tz K mg) (D : DefAt K mg "is_list" s_is_list f fd) (sm : ∃ o, base.get? sysModules = some o)  : FnG P w K mg base 1 f fd ["thing", "low", "high"] sp_is_list :=
  Fn_ok (k := 0) (b := b_is_list) D.F sc_is_list sm fun cdv A outer s H E G => (sd_one (sd_ret (pd_and (pd_callB (call_isiD T.kit) sim_isi T.z_isinstance (pa_consD (pd_var 0) (pa_consD (pd_tup (pa_consD (pd_tyName T.z_list) (pa_consD (pd_tyName T.z_tuple) pa_nilD))) pa_nilD))) (pd_one (pd_chain op_leS sim_ord op_leS sim_ord (pd_var 1) (pd_callB call_len sim_len T.z_len (pa_consD (pd_var 0) pa_nilD)) (pd_var 2))))))
theorem ok_is_list {P : Program} {w : World} {K : PySem.W.Frag} {mg : Str → Option Value} {base : Heap} {f : Addr} {fd : FuncData} (T : Tz K mg) (D : DefAt K mg "is_list" s_is_list f fd) (sm : ∃ o, base.get? sysModules = some o)  : Ok P w K mg base 1 "is_list" ["thing", "low", "high"] sp_is_list := ok_mk D (fn_is_list T D sm ) (fun _ _ _ _ _ _ us hl => match us, hl with | [_, _, _], _ => rfl)
/-! need_parts -/
abbrev s_need_parts : Stmt := topS 14
theorem sc_need_parts : FnScope ["parts", "part", "place", "one"] ["parts"] (defScope s_need_parts) := ⟨rfl, rfl, rfl, by decide +kernel, rfl, by decide +kernel, by decide +kernel⟩
def b_need_parts : DS := (sSeq (sIf (tNotD (tTru (dCall sp_is_list [] (dCons (dVar 0) (dCons (dC (.int 1)) (dCons (dC (.int 4)) dNil)))))) (sRz "NoParts" ["found"] (dCons (dVar 0) dNil)) sNil) (sFor (iSeq (dVar 0)) (gN 1) (sSeq (sIf (tNotD (tTru (dCall sp_is_list [] (dCons (dVar 1) (dCons (dC (.int 1)) (dCons (dC (.int 100)) dNil)))))) (sRz "NoParts" ["found"] (dCons (dVar 1) dNil)) sNil) (sFor (iSeq (dVar 1)) (gN 2) (sIf (tOrD (tNotD (tTru (dB (fIsi kt) (dCons (dVar 2) (dCons (dC (.ty "tuple")) dNil))))) (tOrD (tBl (dOp fNe (dB fLen (dCons (dVar 2) dNil)) (dC (.int 2)))) (tNotD (tTru (dB fAllB (dCons (dLc false (iSeq (dVar 2)) (.inl 3) tYesD (dCall sp_is_number [] (dCons (dVar 3) dNil)) [3]) dNil)))))) (sRz "NoPlace" ["found"] (dCons (dVar 2) dNil)) sNil)))))
def sp_need_parts : DSp := spOf 4 1 b_need_parts
theorem fn_need_parts {P : Program} {w : World} {K : PySem.W.Frag} {mg : Str → Option Value} {base : Heap} {f : Addr} {fd : FuncData} (T : Tz K mg) (D : DefAt K mg "need_parts" s_need_parts f fd) (sm : ∃ o, base.get? sysModules = some o) (E_NoParts : ExOk P w K mg base "NoParts" ["found"]) (E_NoPlace : ExOk P w K mg base "NoPlace" ["found"]) (O_is_list : Ok P w K mg base 1 "is_list" ["thing", "low", "high"] sp_is_list) (O_is_number : Ok P w K mg base 3 "is_number" ["thing"] sp_is_number) : FnG P w K mg base 4 f fd ["parts"] sp_need_parts :=
  Fn_ok (k := 3) (b := b_need_parts) D.F sc_need_parts sm fun cdv A outer s H E G => (sd_cons (sd_if (pt_notD (pt_truD (pd_callN G (O_is_list.mono (by decide)) (pa_consD (pd_var 0) (pa_consD pd_int (pa_consD (pd_glbInt T.g_MOST_POLYGONS) pa_nilD)))))) (sd_one (sd_raise (G.mono (j := 2) (by decide)) E_NoParts (by simp) (pa_consD (pd_var 0) pa_nilD))) sd_nil) (sd_one (sd_for G (pi_seqD (pd_var 0)) (pg_nameD (i := 1) G.nd) (sd_cons (sd_if (pt_notD (pt_truD (pd_callN G (O_is_list.mono (by decide)) (pa_consD (pd_var 1) (pa_consD pd_int (pa_consD (pd_glbInt T.g_MOST_PLACES) pa_nilD)))))) (sd_one (sd_raise (G.mono (j := 2) (by decide)) E_NoParts (by simp) (pa_consD (pd_var 1) pa_nilD))) sd_nil) (sd_one (sd_for G (pi_seqD (pd_var 1)) (pg_nameD (i := 2) G.nd) (sd_one (sd_if (PW.pt (pw_orD (pt_notD (pt_truD (pd_callB (call_isiD T.kit) sim_isi T.z_isinstance (pa_consD (pd_var 2) (pa_consD (pd_tyName T.z_tuple) pa_nilD))))) (pw_orD (pt_ne G (pd_callB call_len sim_len T.z_len (pa_consD (pd_var 2) pa_nilD)) pd_int) (pw_or1D (pt_notD (pt_truD (pd_callB (cr_all G.calm) sim_all T.z_all (pa_consD (pd_lc false [("one", 3)] (.inl 3) G (pi_seqD (pd_var 2)) (fun _ _ _ _ _ => pg_name G.nd rfl (by first | exact Or.inl rfl | exact Or.inr rfl)) (fun _ _ _ _ _ => pts_nilD) (fun _ _ _ _ _ => (pd_callN G.blk (O_is_number.mono (by decide)) (pa_consD (pd_var 3) pa_nilD)))) pa_nilD)))))))) (sd_one (sd_raise (G.mono (j := 2) (by decide)) E_NoPlace (by simp) (pa_consD (pd_var 2) pa_nilD))) sd_nil))))))))
theorem ok_need_parts {P : Program} {w : World} {K : PySem.W.Frag} {mg : Str → Option Value} {base : Heap} {f : Addr} {fd : FuncData} (T : Tz K mg) (D : DefAt K mg "need_parts" s_need_parts f fd) (sm : ∃ o, base.get? sysModules = some o) (E_NoParts : ExOk P w K mg base "NoParts" ["found"]) (E_NoPlace : ExOk P w K mg base "NoPlace" ["found"]) (O_is_list : Ok P w K mg base 1 "is_list" ["thing", "low", "high"] sp_is_list) (O_is_number : Ok P w K mg base 3 "is_number" ["thing"] sp_is_number) : Ok P w K mg base 4 "need_parts" ["parts"] sp_need_parts := ok_mk D (fn_need_parts T D sm E_NoParts E_NoPlace O_is_list O_is_number) (fun _ _ _ _ _ _ us hl => match us, hl with | [_], _ => rfl)
/-! base_of -/
abbrev s_base_of : Stmt := topS 15
theorem sc_base_of : FnScope ["number"] ["number"] (defScope s_base_of) := ⟨rfl, rfl, rfl, by decide +kernel, rfl, by decide +kernel, by decide +kernel⟩
def b_base_of : DS := (sRet (dIf (tTru (dB (fIsi kt) (dCons (dVar 0) (dCons (dC (.ty "tuple")) dNil)))) (dOp fIx (dVar 0) (dC (.int 1))) (dC (.int 1))))
def sp_base_of : DSp := spOf 1 1 b_base_of
theorem fn_base_of {P : Program} {w : World} {K : PySem.W.Frag} {mg : Str → Option Value} {base : Heap} {f : Addr} {fd : FuncData} (T : Tz K mg) (D : DefAt K mg "base_of" s_base_of f fd) (sm : ∃ o, base.get? sysModules = some o)  : FnG P w K mg base 1 f fd ["number"] sp_base_of :=
  Fn_ok (k := 0) (b := b_base_of) D.F sc_base_of sm fun cdv A outer s H E G => (sd_one (sd_ret (pd_if (pt_truD (pd_callB (call_isiD T.kit) sim_isi T.z_isinstance (pa_consD (pd_var 0) (pa_consD (pd_tyName T.z_tuple) pa_nilD)))) (pd_ix (pd_var 0) pd_int) pd_int)))
theorem ok_base_of {P : Program} {w : World} {K : PySem.W.Frag} {mg : Str → Option Value} {base : Heap} {f : Addr} {fd : FuncData} (T : Tz K mg) (D : DefAt K mg "base_of" s_base_of f fd) (sm : ∃ o, base.get? sysModules = some o)  : Ok P w K mg base 1 "base_of" ["number"] sp_base_of := ok_mk D (fn_base_of T D sm ) (fun _ _ _ _ _ _ us hl => match us, hl with | [_], _ => rfl)
/-! scale_of -/
abbrev s_scale_of : Stmt := topS 16
theorem sc_scale_of : FnScope ["parts", "many", "base", "part", "place", "number"] ["parts"] (defScope s_scale_of) := ⟨rfl, rfl, rfl, by decide +kernel, rfl, by decide +kernel, by decide +kernel⟩
def b_scale_of : DS := (sSeq (sAsg (dC (.int 1)) (gN 1)) (sSeq (sFor (iSeq (dLcG false (iSeq (dVar 0)) (.inl 3) tYesD (fun n => (cFor (iSeq (dVar 3)) (.inl 4) tYesD [4, 5] (cFor (iSeq (dVar 4)) (.inl 5) tYesD [5] (cElt n (dCall sp_base_of [] (dCons (dVar 5) dNil)))))) [3, 4, 5])) (gN 2) (sAsg (dOp fDiv (dOp fMulI (dVar 1) (dVar 2)) (dCall sp_common_part [] (dCons (dVar 1) (dCons (dVar 2) dNil)))) (gN 1))) (sRet (dVar 1))))
def sp_scale_of : DSp := spOf 6 1 b_scale_of
theorem fn_scale_of {P : Program} {w : World} {K : PySem.W.Frag} {mg : Str → Option Value} {base : Heap} {f : Addr} {fd : FuncData} (T : Tz K mg) (D : DefAt K mg "scale_of" s_scale_of f fd) (sm : ∃ o, base.get? sysModules = some o) (O_base_of : Ok P w K mg base 1 "base_of" ["number"] sp_base_of) (O_common_part : Ok P w K mg base 1 "common_part" ["one", "other"] sp_common_part) : FnG P w K mg base 2 f fd ["parts"] sp_scale_of :=
  Fn_ok (k := 1) (b := b_scale_of) D.F sc_scale_of sm fun cdv A outer s H E G => (sd_cons (sd_set 1 G.nd pd_int) (sd_cons (sd_for G (pi_seqD (pd_lc3 false [("part", 3), ("place", 4), ("number", 5)] (.inl 3) (.inl 4) (.inl 5) [4, 5] [5] G (pi_seqD (pd_var 0)) (fun _ _ _ _ _ => (pg_name G.nd rfl (by first | exact Or.inl rfl | exact Or.inr rfl))) (fun _ _ _ _ _ => pts_nilD) (fun _ _ _ _ _ => (pi_seqD (pd_var 3))) (fun _ _ _ _ _ => (pg_name G.nd rfl (by first | exact Or.inl rfl | exact Or.inr rfl))) (fun _ _ _ _ _ => pts_nilD) (fun _ _ _ _ _ => (pi_seqD (pd_var 4))) (fun _ _ _ _ _ => (pg_name G.nd rfl (by first | exact Or.inl rfl | exact Or.inr rfl))) (fun _ _ _ _ _ => pts_nilD) (fun _ _ _ _ _ => (pd_callN G.blk (O_base_of.mono (by decide)) (pa_consD (pd_var 5) pa_nilD))))) (pg_nameD (i := 2) G.nd) (sd_one (sd_set 1 G.nd (pd_fdiv (pd_mulI (pd_var 1) (pd_var 2)) (pd_callN G (O_common_part.mono (by decide)) (pa_consD (pd_var 1) (pa_consD (pd_var 2) pa_nilD))))))) (sd_one (sd_ret (pd_var 1)))))
theorem ok_scale_of {P : Program} {w : World} {K : PySem.W.Frag} {mg : Str → Option Value} {base : Heap} {f : Addr} {fd : FuncData} (T : Tz K mg) (D : DefAt K mg "scale_of" s_scale_of f fd) (sm : ∃ o, base.get? sysModules = some o) (O_base_of : Ok P w K mg base 1 "base_of" ["number"] sp_base_of) (O_common_part : Ok P w K mg base 1 "common_part" ["one", "other"] sp_common_part) : Ok P w K mg base 2 "scale_of" ["parts"] sp_scale_of := ok_mk D (fn_scale_of T D sm O_base_of O_common_part) (fun _ _ _ _ _ _ us hl => match us, hl with | [_], _ => rfl)
/-! whole_of -/
abbrev s_whole_of : Stmt := topS 18
theorem sc_whole_of : FnScope ["number", "many"] ["number", "many"] (defScope s_whole_of) := ⟨rfl, rfl, rfl, by decide +kernel, rfl, by decide +kernel, by decide +kernel⟩
def b_whole_of : DS := (sSeq (sIf (tTru (dB (fIsi kt) (dCons (dVar 0) (dCons (dC (.ty "tuple")) dNil)))) (sRet (dOp fMulI (dOp fIx (dVar 0) (dC (.int 0))) (dOp fDiv (dVar 1) (dOp fIx (dVar 0) (dC (.int 1)))))) sNil) (sRet (dOp fMulI (dVar 0) (dVar 1))))
def sp_whole_of : DSp := spOf 2 2 b_whole_of
theorem fn_whole_of {P : Program} {w : World} {K : PySem.W.Frag} {mg : Str → Option Value} {base : Heap} {f : Addr} {fd : FuncData} (T : Tz K mg) (D : DefAt K mg "whole_of" s_whole_of f fd) (sm : ∃ o, base.get? sysModules = some o)  : FnG P w K mg base 1 f fd ["number", "many"] sp_whole_of :=
  Fn_ok (k := 0) (b := b_whole_of) D.F sc_whole_of sm fun cdv A outer s H E G => (sd_cons (sd_if (pt_truD (pd_callB (call_isiD T.kit) sim_isi T.z_isinstance (pa_consD (pd_var 0) (pa_consD (pd_tyName T.z_tuple) pa_nilD)))) (sd_one (sd_ret (pd_mulI (pd_ix (pd_var 0) pd_int) (pd_fdiv (pd_var 1) (pd_ix (pd_var 0) pd_int))))) sd_nil) (sd_one (sd_ret (pd_mulI (pd_var 0) (pd_var 1)))))
theorem ok_whole_of {P : Program} {w : World} {K : PySem.W.Frag} {mg : Str → Option Value} {base : Heap} {f : Addr} {fd : FuncData} (T : Tz K mg) (D : DefAt K mg "whole_of" s_whole_of f fd) (sm : ∃ o, base.get? sysModules = some o)  : Ok P w K mg base 1 "whole_of" ["number", "many"] sp_whole_of := ok_mk D (fn_whole_of T D sm ) (fun _ _ _ _ _ _ us hl => match us, hl with | [_, _], _ => rfl)
/-! in_wholes -/
abbrev s_in_wholes : Stmt := topS 17
theorem sc_in_wholes : FnScope ["parts", "many", "found", "part", "place", "number"] ["parts"] (defScope s_in_wholes) := ⟨rfl, rfl, rfl, by decide +kernel, rfl, by decide +kernel, by decide +kernel⟩
def b_in_wholes : DS := (sSeq (sAsg (dCall sp_scale_of [] (dCons (dVar 0) dNil)) (gN 1)) (sSeq (sAsg (dLst true dNil) (gN 2)) (sSeq (sFor (iSeq (dVar 0)) (gN 3) (sExp (dBM "list" fAppend (dVar 2) (dCons (dLc false (iSeq (dVar 3)) (.inl 4) tYesD (dTupOf (dLc false (iSeq (dVar 4)) (.inl 5) tYesD (dCall sp_whole_of [] (dCons (dVar 5) (dCons (dVar 1) dNil))) [5])) [4]) dNil)))) (sRet (dVar 2)))))
def sp_in_wholes : DSp := spOf 6 1 b_in_wholes
theorem fn_in_wholes {P : Program} {w : World} {K : PySem.W.Frag} {mg : Str → Option Value} {base : Heap} {f : Addr} {fd : FuncData} (T : Tz K mg) (D : DefAt K mg "in_wholes" s_in_wholes f fd) (sm : ∃ o, base.get? sysModules = some o) (O_scale_of : Ok P w K mg base 2 "scale_of" ["parts"] sp_scale_of) (O_whole_of : Ok P w K mg base 1 "whole_of" ["number", "many"] sp_whole_of) : FnG P w K mg base 3 f fd ["parts"] sp_in_wholes :=
  Fn_ok (k := 2) (b := b_in_wholes) D.F sc_in_wholes sm fun cdv A outer s H E G => (sd_cons (sd_set 1 G.nd (pd_callN G (O_scale_of.mono (by decide)) (pa_consD (pd_var 0) pa_nilD))) (sd_cons (sd_set 2 G.nd (pd_lst true pa_nilD)) (sd_cons (sd_for G (pi_seqD (pd_var 0)) (pg_nameD (i := 3) G.nd) (sd_one (sd_exp (pd_append (pd_var 2) (pa_consD (pd_lc false [("place", 4)] (.inl 4) G (pi_seqD (pd_var 3)) (fun _ _ _ _ _ => pg_name G.nd rfl (by first | exact Or.inl rfl | exact Or.inr rfl)) (fun _ _ _ _ _ => pts_nilD) (fun _ _ _ _ _ => (pd_tupOf T.z_tuple (pd_lc false [("number", 5)] (.inl 5) G.blk (pi_seqD (pd_var 4)) (fun _ _ _ _ _ => pg_name G.blk.nd rfl (by first | exact Or.inl rfl | exact Or.inr rfl)) (fun _ _ _ _ _ => pts_nilD) (fun _ _ _ _ _ => (pd_callN G.blk.blk (O_whole_of.mono (by decide)) (pa_consD (pd_var 5) (pa_consD (pd_var 1) pa_nilD)))))))) pa_nilD))))) (sd_one (sd_ret (pd_var 2))))))
theorem ok_in_wholes {P : Program} {w : World} {K : PySem.W.Frag} {mg : Str → Option Value} {base : Heap} {f : Addr} {fd : FuncData} (T : Tz K mg) (D : DefAt K mg "in_wholes" s_in_wholes f fd) (sm : ∃ o, base.get? sysModules = some o) (O_scale_of : Ok P w K mg base 2 "scale_of" ["parts"] sp_scale_of) (O_whole_of : Ok P w K mg base 1 "whole_of" ["number", "many"] sp_whole_of) : Ok P w K mg base 3 "in_wholes" ["parts"] sp_in_wholes := ok_mk D (fn_in_wholes T D sm O_scale_of O_whole_of) (fun _ _ _ _ _ _ us hl => match us, hl with | [_], _ => rfl)
/-! sign_of -/
abbrev s_sign_of : Stmt := topS 19
theorem sc_sign_of : FnScope ["number"] ["number"] (defScope s_sign_of) := ⟨rfl, rfl, rfl, by decide +kernel, rfl, by decide +kernel, by decide +kernel⟩
def b_sign_of : DS := (sRet (dOp fSub (dB fInt (dCons (dOp fGtS (dVar 0) (dC (.int 0))) dNil)) (dB fInt (dCons (dOp fLtS (dVar 0) (dC (.int 0))) dNil))))
def sp_sign_of : DSp := spOf 1 1 b_sign_of
theorem fn_sign_of {P : Program} {w : World} {K : PySem.W.Frag} {mg : Str → Option Value} {base : Heap} {f : Addr} {fd : FuncData} (T : Tz K mg) (D : DefAt K mg "sign_of" s_sign_of f fd) (sm : ∃ o, base.get? sysModules = some o)  : FnG P w K mg base 1 f fd ["number"] sp_sign_of :=
  Fn_ok (k := 0) (b := b_sign_of) D.F sc_sign_of sm fun cdv A outer s H E G => (sd_one (sd_ret (pd_sub (pd_callTy call_int1 sim_int T.z_int (pa_consD (pd_gt (pd_var 0) pd_int) pa_nilD)) (pd_callTy call_int1 sim_int T.z_int (pa_consD (pd_lt (pd_var 0) pd_int) pa_nilD)))))
theorem ok_sign_of {P : Program} {w : World} {K : PySem.W.Frag} {mg : Str → Option Value} {base : Heap} {f : Addr} {fd : FuncData} (T : Tz K mg) (D : DefAt K mg "sign_of" s_sign_of f fd) (sm : ∃ o, base.get? sysModules = some o)  : Ok P w K mg base 1 "sign_of" ["number"] sp_sign_of := ok_mk D (fn_sign_of T D sm ) (fun _ _ _ _ _ _ us hl => match us, hl with | [_], _ => rfl)
/-! side_of -/
abbrev s_side_of : Stmt := topS 20
theorem sc_side_of : FnScope ["first", "second", "third", "one"] ["first", "second", "third"] (defScope s_side_of) := ⟨rfl, rfl, rfl, by decide +kernel, rfl, by decide +kernel, by decide +kernel⟩
def b_side_of : DS := (sSeq (sAsg (dOp fMulI (dOp fSub (dOp fIx (dVar 1) (dC (.int 0))) (dOp fIx (dVar 0) (dC (.int 0)))) (dOp fSub (dOp fIx (dVar 2) (dC (.int 1))) (dOp fIx (dVar 0) (dC (.int 1))))) (gN 3)) (sRet (dCall sp_sign_of [] (dCons (dOp fSub (dVar 3) (dOp fMulI (dOp fSub (dOp fIx (dVar 1) (dC (.int 1))) (dOp fIx (dVar 0) (dC (.int 1)))) (dOp fSub (dOp fIx (dVar 2) (dC (.int 0))) (dOp fIx (dVar 0) (dC (.int 0)))))) dNil))))
def sp_side_of : DSp := spOf 4 3 b_side_of
theorem fn_side_of {P : Program} {w : World} {K : PySem.W.Frag} {mg : Str → Option Value} {base : Heap} {f : Addr} {fd : FuncData} (T : Tz K mg) (D : DefAt K mg "side_of" s_side_of f fd) (sm : ∃ o, base.get? sysModules = some o) (O_sign_of : Ok P w K mg base 1 "sign_of" ["number"] sp_sign_of) : FnG P w K mg base 2 f fd ["first", "second", "third"] sp_side_of :=
  Fn_ok (k := 1) (b := b_side_of) D.F sc_side_of sm fun cdv A outer s H E G => (sd_cons (sd_set 3 G.nd (pd_mulI (pd_sub (pd_ix (pd_var 1) pd_int) (pd_ix (pd_var 0) pd_int)) (pd_sub (pd_ix (pd_var 2) pd_int) (pd_ix (pd_var 0) pd_int)))) (sd_one (sd_ret (pd_callN G (O_sign_of.mono (by decide)) (pa_consD (pd_sub (pd_var 3) (pd_mulI (pd_sub (pd_ix (pd_var 1) pd_int) (pd_ix (pd_var 0) pd_int)) (pd_sub (pd_ix (pd_var 2) pd_int) (pd_ix (pd_var 0) pd_int)))) pa_nilD)))))
theorem ok_side_of {P : Program} {w : World} {K : PySem.W.Frag} {mg : Str → Option Value} {base : Heap} {f : Addr} {fd : FuncData} (T : Tz K mg) (D : DefAt K mg "side_of" s_side_of f fd) (sm : ∃ o, base.get? sysModules = some o) (O_sign_of : Ok P w K mg base 1 "sign_of" ["number"] sp_sign_of) : Ok P w K mg base 2 "side_of" ["first", "second", "third"] sp_side_of := ok_mk D (fn_side_of T D sm O_sign_of) (fun _ _ _ _ _ _ us hl => match us, hl with | [_, _, _], _ => rfl)
/-! is_between -/
abbrev s_is_between : Stmt := topS 21
theorem sc_is_between : FnScope ["first", "second", "third", "one", "other", "here"] ["first", "second", "third"] (defScope s_is_between) := ⟨rfl, rfl, rfl, by decide +kernel, rfl, by decide +kernel, by decide +kernel⟩
def b_is_between : DS := (sRet (dB fAllB (dCons (dLc false (iZipD (dCons (dVar 0) (dCons (dVar 1) (dCons (dVar 2) dNil)))) (.inr [3, 4, 5]) tYesD (dChain fLeS fLeS (dB fMin2 (dCons (dVar 3) (dCons (dVar 4) dNil))) (dVar 5) (dB fMax2 (dCons (dVar 3) (dCons (dVar 4) dNil)))) [3, 4, 5]) dNil)))
def sp_is_between : DSp := spOf 6 3 b_is_between
theorem fn_is_between {P : Program} {w : World} {K : PySem.W.Frag} {mg : Str → Option Value} {base : Heap} {f : Addr} {fd : FuncData} (T : Tz K mg) (D : DefAt K mg "is_between" s_is_between f fd) (sm : ∃ o, base.get? sysModules = some o)  : FnG P w K mg base 1 f fd ["first", "second", "third"] sp_is_between :=
  Fn_ok (k := 0) (b := b_is_between) D.F sc_is_between sm fun cdv A outer s H E G => (sd_one (sd_ret (pd_callB (cr_all G.calm) sim_all T.z_all (pa_consD (pd_lc false [("one", 3), ("other", 4), ("here", 5)] (.inr [3, 4, 5]) G (pi_zipD T.z_zip (pa_consD (pd_var 0) (pa_consD (pd_var 1) (pa_consD (pd_var 2) pa_nilD)))) (fun _ _ _ _ _ => pg_tup G.calm (pgs_cons (pg_name G.nd rfl (by first | exact Or.inl rfl | exact Or.inr rfl)) (pgs_cons (pg_name G.nd rfl (by first | exact Or.inl rfl | exact Or.inr rfl)) (pgs_cons (pg_name G.nd rfl (by first | exact Or.inl rfl | exact Or.inr rfl)) pgs_nil)))) (fun _ _ _ _ _ => pts_nilD) (fun _ _ _ _ _ => (pd_chain op_leS sim_ord op_leS sim_ord (pd_callB (call_min2 G.blk.calm) sim_min2 T.z_min (pa_consD (pd_var 3) (pa_consD (pd_var 4) pa_nilD))) (pd_var 5) (pd_callB (call_max2 G.blk.calm) sim_max2 T.z_max (pa_consD (pd_var 3) (pa_consD (pd_var 4) pa_nilD)))))) pa_nilD))))
theorem ok_is_between {P : Program} {w : World} {K : PySem.W.Frag} {mg : Str → Option Value} {base : Heap} {f : Addr} {fd : FuncData} (T : Tz K mg) (D : DefAt K mg "is_between" s_is_between f fd) (sm : ∃ o, base.get? sysModules = some o)  : Ok P w K mg base 1 "is_between" ["first", "second", "third"] sp_is_between := ok_mk D (fn_is_between T D sm ) (fun _ _ _ _ _ _ us hl => match us, hl with | [_, _, _], _ => rfl)
/-! do_touch -/
abbrev s_do_touch : Stmt := topS 22
theorem sc_do_touch : FnScope ["one", "other", "sides", "others", "place", "side"] ["one", "other"] (defScope s_do_touch) := ⟨rfl, rfl, rfl, by decide +kernel, rfl, by decide +kernel, by decide +kernel⟩
def b_do_touch : DS := (sSeq (sAsg (dLc false (iSeq (dVar 1)) (.inl 4) tYesD (dCall sp_side_of [] (dCons (dOp fIx (dVar 0) (dC (.int 0))) (dCons (dOp fIx (dVar 0) (dC (.int 1))) (dCons (dVar 4) dNil)))) [4]) (gN 2)) (sSeq (sAsg (dLc false (iSeq (dVar 0)) (.inl 4) tYesD (dCall sp_side_of [] (dCons (dOp fIx (dVar 1) (dC (.int 0))) (dCons (dOp fIx (dVar 1) (dC (.int 1))) (dCons (dVar 4) dNil)))) [4]) (gN 3)) (sSeq (sIf (tAndD (tBl (dOp fLtS (dOp fMulI (dOp fIx (dVar 2) (dC (.int 0))) (dOp fIx (dVar 2) (dC (.int 1)))) (dC (.int 0)))) (tBl (dOp fLtS (dOp fMulI (dOp fIx (dVar 3) (dC (.int 0))) (dOp fIx (dVar 3) (dC (.int 1)))) (dC (.int 0))))) (sRet (dC (.bl true))) sNil) (sSeq (sIf (tTru (dB fAnyB (dCons (dLc false (iZipD (dCons (dVar 2) (dCons (dVar 1) dNil))) (.inr [5, 4]) tYesD (dAnd (dOp fEq (dVar 5) (dC (.int 0))) (dCall sp_is_between [] (dCons (dOp fIx (dVar 0) (dC (.int 0))) (dCons (dOp fIx (dVar 0) (dC (.int 1))) (dCons (dVar 4) dNil))))) [5, 4]) dNil))) (sRet (dC (.bl true))) sNil) (sRet (dB fAnyB (dCons (dLc false (iZipD (dCons (dVar 3) (dCons (dVar 0) dNil))) (.inr [5, 4]) tYesD (dAnd (dOp fEq (dVar 5) (dC (.int 0))) (dCall sp_is_between [] (dCons (dOp fIx (dVar 1) (dC (.int 0))) (dCons (dOp fIx (dVar 1) (dC (.int 1))) (dCons (dVar 4) dNil))))) [5, 4]) dNil)))))))
def sp_do_touch : DSp := spOf 6 2 b_do_touch
theorem fn_do_touch {P : Program} {w : World} {K : PySem.W.Frag} {mg : Str → Option Value} {base : Heap} {f : Addr} {fd : FuncData} (T : Tz K mg) (D : DefAt K mg "do_touch" s_do_touch f fd) (sm : ∃ o, base.get? sysModules = some o) (O_is_between : Ok P w K mg base 1 "is_between" ["first", "second", "third"] sp_is_between) (O_side_of : Ok P w K mg base 2 "side_of" ["first", "second", "third"] sp_side_of) : FnG P w K mg base 3 f fd ["one", "other"] sp_do_touch :=
  Fn_ok (k := 2) (b := b_do_touch) D.F sc_do_touch sm fun cdv A outer s H E G => (sd_cons (sd_setLc 2 false [("place", 4)] (.inl 4) G (pi_seqD (pd_var 1)) (fun _ _ _ _ _ => pg_name G.nd rfl (by first | exact Or.inl rfl | exact Or.inr rfl)) (fun _ _ _ _ _ => pts_nilD) (fun _ _ _ _ _ => (pd_callN G.blk (O_side_of.mono (by decide)) (pa_consD (pd_ix (pd_var 0) pd_int) (pa_consD (pd_ix (pd_var 0) pd_int) (pa_consD (pd_var 4) pa_nilD)))))) (sd_cons (sd_setLc 3 false [("place", 4)] (.inl 4) G (pi_seqD (pd_var 0)) (fun _ _ _ _ _ => pg_name G.nd rfl (by first | exact Or.inl rfl | exact Or.inr rfl)) (fun _ _ _ _ _ => pts_nilD) (fun _ _ _ _ _ => (pd_callN G.blk (O_side_of.mono (by decide)) (pa_consD (pd_ix (pd_var 1) pd_int) (pa_consD (pd_ix (pd_var 1) pd_int) (pa_consD (pd_var 4) pa_nilD)))))) (sd_cons (sd_if (PW.pt (pw_andD (pt_lt (pd_mulI (pd_ix (pd_var 2) pd_int) (pd_ix (pd_var 2) pd_int)) pd_int) (pw_and1D (pt_lt (pd_mulI (pd_ix (pd_var 3) pd_int) (pd_ix (pd_var 3) pd_int)) pd_int)))) (sd_one (sd_ret pd_bl)) sd_nil) (sd_cons (sd_if (pt_truD (pd_callB (cr_any G.calm) sim_any T.z_any (pa_consD (pd_lc false [("side", 5), ("place", 4)] (.inr [5, 4]) G (pi_zipD T.z_zip (pa_consD (pd_var 2) (pa_consD (pd_var 1) pa_nilD))) (fun _ _ _ _ _ => pg_tup G.calm (pgs_cons (pg_name G.nd rfl (by first | exact Or.inl rfl | exact Or.inr rfl)) (pgs_cons (pg_name G.nd rfl (by first | exact Or.inl rfl | exact Or.inr rfl)) pgs_nil))) (fun _ _ _ _ _ => pts_nilD) (fun _ _ _ _ _ => (pd_and (pd_eq G.blk (pd_var 5) pd_int) (pd_one (pd_callN G.blk (O_is_between.mono (by decide)) (pa_consD (pd_ix (pd_var 0) pd_int) (pa_consD (pd_ix (pd_var 0) pd_int) (pa_consD (pd_var 4) pa_nilD)))))))) pa_nilD))) (sd_one (sd_ret pd_bl)) sd_nil) (sd_one (sd_ret (pd_callB (cr_any G.calm) sim_any T.z_any (pa_consD (pd_lc false [("side", 5), ("place", 4)] (.inr [5, 4]) G (pi_zipD T.z_zip (pa_consD (pd_var 3) (pa_consD (pd_var 0) pa_nilD))) (fun _ _ _ _ _ => pg_tup G.calm (pgs_cons (pg_name G.nd rfl (by first | exact Or.inl rfl | exact Or.inr rfl)) (pgs_cons (pg_name G.nd rfl (by first | exact Or.inl rfl | exact Or.inr rfl)) pgs_nil))) (fun _ _ _ _ _ => pts_nilD) (fun _ _ _ _ _ => (pd_and (pd_eq G.blk (pd_var 5) pd_int) (pd_one (pd_callN G.blk (O_is_between.mono (by decide)) (pa_consD (pd_ix (pd_var 1) pd_int) (pa_consD (pd_ix (pd_var 1) pd_int) (pa_consD (pd_var 4) pa_nilD)))))))) pa_nilD))))))))
theorem ok_do_touch {P : Program} {w : World} {K : PySem.W.Frag} {mg : Str → Option Value} {base : Heap} {f : Addr} {fd : FuncData} (T : Tz K mg) (D : DefAt K mg "do_touch" s_do_touch f fd) (sm : ∃ o, base.get? sysModules = some o) (O_is_between : Ok P w K mg base 1 "is_between" ["first", "second", "third"] sp_is_between) (O_side_of : Ok P w K mg base 2 "side_of" ["first", "second", "third"] sp_side_of) : Ok P w K mg base 3 "do_touch" ["one", "other"] sp_do_touch := ok_mk D (fn_do_touch T D sm O_is_between O_side_of) (fun _ _ _ _ _ _ us hl => match us, hl with | [_, _], _ => rfl)
/-! do_fold -/
abbrev s_do_fold : Stmt := topS 23
theorem sc_do_fold : FnScope ["one", "other"] ["one", "other"] (defScope s_do_fold) := ⟨rfl, rfl, rfl, by decide +kernel, rfl, by decide +kernel, by decide +kernel⟩
def b_do_fold : DS := (sSeq (sIf (tBl (dOp fNe (dCall sp_side_of [] (dCons (dOp fIx (dVar 0) (dC (.int 0))) (dCons (dOp fIx (dVar 0) (dC (.int 1))) (dCons (dOp fIx (dVar 1) (dC (.int 1))) dNil)))) (dC (.int 0)))) (sRet (dC (.bl false))) sNil) (sRet (dNot (dCall sp_is_between [] (dCons (dOp fIx (dVar 0) (dC (.int 0))) (dCons (dOp fIx (dVar 1) (dC (.int 1))) (dCons (dOp fIx (dVar 0) (dC (.int 1))) dNil)))))))
def sp_do_fold : DSp := spOf 2 2 b_do_fold
theorem fn_do_fold {P : Program} {w : World} {K : PySem.W.Frag} {mg : Str → Option Value} {base : Heap} {f : Addr} {fd : FuncData} (T : Tz K mg) (D : DefAt K mg "do_fold" s_do_fold f fd) (sm : ∃ o, base.get? sysModules = some o) (O_is_between : Ok P w K mg base 1 "is_between" ["first", "second", "third"] sp_is_between) (O_side_of : Ok P w K mg base 2 "side_of" ["first", "second", "third"] sp_side_of) : FnG P w K mg base 3 f fd ["one", "other"] sp_do_fold :=
  Fn_ok (k := 2) (b := b_do_fold) D.F sc_do_fold sm fun cdv A outer s H E G => (sd_cons (sd_if (pt_ne G (pd_callN G (O_side_of.mono (by decide)) (pa_consD (pd_ix (pd_var 0) pd_int) (pa_consD (pd_ix (pd_var 0) pd_int) (pa_consD (pd_ix (pd_var 1) pd_int) pa_nilD)))) pd_int) (sd_one (sd_ret pd_bl)) sd_nil) (sd_one (sd_ret (pd_not (pd_callN G (O_is_between.mono (by decide)) (pa_consD (pd_ix (pd_var 0) pd_int) (pa_consD (pd_ix (pd_var 1) pd_int) (pa_consD (pd_ix (pd_var 0) pd_int) pa_nilD))))))))
theorem ok_do_fold {P : Program} {w : World} {K : PySem.W.Frag} {mg : Str → Option Value} {base : Heap} {f : Addr} {fd : FuncData} (T : Tz K mg) (D : DefAt K mg "do_fold" s_do_fold f fd) (sm : ∃ o, base.get? sysModules = some o) (O_is_between : Ok P w K mg base 1 "is_between" ["first", "second", "third"] sp_is_between) (O_side_of : Ok P w K mg base 2 "side_of" ["first", "second", "third"] sp_side_of) : Ok P w K mg base 3 "do_fold" ["one", "other"] sp_do_fold := ok_mk D (fn_do_fold T D sm O_is_between O_side_of) (fun _ _ _ _ _ _ us hl => match us, hl with | [_, _], _ => rfl)
/-! edges_of -/
abbrev s_edges_of : Stmt := topS 24
theorem sc_edges_of : FnScope ["parts", "found", "number", "part", "some", "at", "place", "after", "k", "ends"] ["parts"] (defScope s_edges_of) := ⟨rfl, rfl, rfl, by decide +kernel, rfl, by decide +kernel, by decide +kernel⟩
def b_edges_of : DS := (sSeq (sAsg (dLst true dNil) (gN 1)) (sSeq (sFor (iEnumD (dCons (dVar 0) dNil)) (gTupD 2 (gConsD (gN 2) (gConsD (gN 3) gNilD))) (sSeq (sAsg (dLst true dNil) (gN 4)) (sSeq (sFor (iEnumD (dCons (dVar 3) dNil)) (gTupD 2 (gConsD (gN 5) (gConsD (gN 6) gNilD))) (sSeq (sAsg (dOp fIx (dVar 3) (dOp fMod (dOp (fAdd false) (dVar 5) (dC (.int 1))) (dB fLen (dCons (dVar 3) dNil)))) (gN 7)) (sIf (tBl (dOp fNe (dVar 7) (dVar 6))) (sExp (dBM "list" fAppend (dVar 4) (dCons (dTup (dCons (dVar 5) (dCons (dTup (dCons (dVar 6) (dCons (dVar 7) dNil))) dNil))) dNil))) sNil))) (sExp (dBM "list" fExtend (dVar 1) (dCons (dLp false (iEnumD (dCons (dVar 4) dNil)) 8 5 9 (dTup (dCons (dVar 2) (dCons (dVar 8) (dCons (dB fLen (dCons (dVar 4) dNil)) (dCons (dVar 5) (dCons (dVar 9) dNil)))))) [8, 5, 9]) dNil)))))) (sRet (dVar 1))))
def sp_edges_of : DSp := spOf 10 1 b_edges_of
theorem fn_edges_of {P : Program} {w : World} {K : PySem.W.Frag} {mg : Str → Option Value} {base : Heap} {f : Addr} {fd : FuncData} (T : Tz K mg) (D : DefAt K mg "edges_of" s_edges_of f fd) (sm : ∃ o, base.get? sysModules = some o)  : FnG P w K mg base 1 f fd ["parts"] sp_edges_of :=
  Fn_ok (k := 0) (b := b_edges_of) D.F sc_edges_of sm fun cdv A outer s H E G => (sd_cons (sd_set 1 G.nd (pd_lst true pa_nilD)) (sd_cons (sd_for G (pi_enumD T.z_enumerate (pa_consD (pd_var 0) pa_nilD)) (pg_tupD G.calm (pgs_consD (pg_nameD (i := 2) G.nd) (pgs_consD (pg_nameD (i := 3) G.nd) pgs_nilD))) (sd_cons (sd_set 4 G.nd (pd_lst true pa_nilD)) (sd_cons (sd_for G (pi_enumD T.z_enumerate (pa_consD (pd_var 3) pa_nilD)) (pg_tupD G.calm (pgs_consD (pg_nameD (i := 5) G.nd) (pgs_consD (pg_nameD (i := 6) G.nd) pgs_nilD))) (sd_cons (sd_set 7 G.nd (pd_ix (pd_var 3) (pd_mod (pd_add false (pd_var 5) pd_int) (pd_callB call_len sim_len T.z_len (pa_consD (pd_var 3) pa_nilD))))) (sd_one (sd_if (pt_ne G (pd_var 7) (pd_var 6)) (sd_one (sd_exp (pd_append (pd_var 4) (pa_consD (pd_tup (pa_consD (pd_var 5) (pa_consD (pd_tup (pa_consD (pd_var 6) (pa_consD (pd_var 7) pa_nilD))) pa_nilD))) pa_nilD)))) sd_nil)))) (sd_one (sd_exp (pd_extend (pd_var 1) (pa_consD (pd_lp false [("k", 8), ("at", 5), ("ends", 9)] 8 5 9 G (pi_enumD T.z_enumerate (pa_consD (pd_var 4) pa_nilD)) (fun _ _ _ _ _ => pg_tup G.calm (pgs_cons (pg_name G.nd rfl (by first | exact Or.inl rfl | exact Or.inr rfl)) (pgs_cons (pg_tup G.calm (pgs_cons (pg_name G.nd rfl (by first | exact Or.inl rfl | exact Or.inr rfl)) (pgs_cons (pg_name G.nd rfl (by first | exact Or.inl rfl | exact Or.inr rfl)) pgs_nil))) pgs_nil))) (fun _ _ _ _ _ => (pd_tup (pa_consD (pd_var 2) (pa_consD (pd_var 8) (pa_consD (pd_callB call_len sim_len T.z_len (pa_consD (pd_var 4) pa_nilD)) (pa_consD (pd_var 5) (pa_consD (pd_var 9) pa_nilD)))))))) pa_nilD))))))) (sd_one (sd_ret (pd_var 1)))))
theorem ok_edges_of {P : Program} {w : World} {K : PySem.W.Frag} {mg : Str → Option Value} {base : Heap} {f : Addr} {fd : FuncData} (T : Tz K mg) (D : DefAt K mg "edges_of" s_edges_of f fd) (sm : ∃ o, base.get? sysModules = some o)  : Ok P w K mg base 1 "edges_of" ["parts"] sp_edges_of := ok_mk D (fn_edges_of T D sm ) (fun _ _ _ _ _ _ us hl => match us, hl with | [_], _ => rfl)
/-! is_too_near -/
abbrev s_is_too_near : Stmt := topS 25
theorem sc_is_too_near : FnScope ["one", "other", "many"] ["one", "other"] (defScope s_is_too_near) := ⟨rfl, rfl, rfl, by decide +kernel, rfl, by decide +kernel, by decide +kernel⟩
def b_is_too_near : DS := (sSeq (sAsg (dOp fIx (dVar 0) (dC (.int 2))) (gN 2)) (sSeq (sIf (tAndD (tBl (dOp fEq (dOp fIx (dVar 0) (dC (.int 0))) (dOp fIx (dVar 1) (dC (.int 0))))) (tBl (dOp fEq (dVar 2) (dC (.int 2))))) (sRet (dC (.bl true))) sNil) (sSeq (sIf (tAndD (tBl (dOp fEq (dOp fIx (dVar 0) (dC (.int 0))) (dOp fIx (dVar 1) (dC (.int 0))))) (tBl (dOp fEq (dOp fIx (dVar 1) (dC (.int 1))) (dOp (fAdd false) (dOp fIx (dVar 0) (dC (.int 1))) (dC (.int 1)))))) (sRet (dCall sp_do_fold [] (dCons (dOp fIx (dVar 0) (dC (.int 4))) (dCons (dOp fIx (dVar 1) (dC (.int 4))) dNil)))) sNil) (sSeq (sIf (tAndD (tBl (dOp fEq (dOp fIx (dVar 0) (dC (.int 0))) (dOp fIx (dVar 1) (dC (.int 0))))) (tAndD (tBl (dOp fEq (dOp fIx (dVar 0) (dC (.int 1))) (dC (.int 0)))) (tBl (dOp fEq (dOp fIx (dVar 1) (dC (.int 1))) (dOp fSub (dVar 2) (dC (.int 1))))))) (sRet (dCall sp_do_fold [] (dCons (dOp fIx (dVar 1) (dC (.int 4))) (dCons (dOp fIx (dVar 0) (dC (.int 4))) dNil)))) sNil) (sRet (dCall sp_do_touch [] (dCons (dOp fIx (dVar 0) (dC (.int 4))) (dCons (dOp fIx (dVar 1) (dC (.int 4))) dNil))))))))
def sp_is_too_near : DSp := spOf 3 2 b_is_too_near
theorem fn_is_too_near {P : Program} {w : World} {K : PySem.W.Frag} {mg : Str → Option Value} {base : Heap} {f : Addr} {fd : FuncData} (T : Tz K mg) (D : DefAt K mg "is_too_near" s_is_too_near f fd) (sm : ∃ o, base.get? sysModules = some o) (O_do_fold : Ok P w K mg base 3 "do_fold" ["one", "other"] sp_do_fold) (O_do_touch : Ok P w K mg base 3 "do_touch" ["one", "other"] sp_do_touch) : FnG P w K mg base 4 f fd ["one", "other"] sp_is_too_near :=
  Fn_ok (k := 3) (b := b_is_too_near) D.F sc_is_too_near sm fun cdv A outer s H E G => (sd_cons (sd_set 2 G.nd (pd_ix (pd_var 0) pd_int)) (sd_cons (sd_if (PW.pt (pw_andD (pt_eq G (pd_ix (pd_var 0) pd_int) (pd_ix (pd_var 1) pd_int)) (pw_and1D (pt_eq G (pd_var 2) pd_int)))) (sd_one (sd_ret pd_bl)) sd_nil) (sd_cons (sd_if (PW.pt (pw_andD (pt_eq G (pd_ix (pd_var 0) pd_int) (pd_ix (pd_var 1) pd_int)) (pw_and1D (pt_eq G (pd_ix (pd_var 1) pd_int) (pd_add false (pd_ix (pd_var 0) pd_int) pd_int))))) (sd_one (sd_ret (pd_callN G (O_do_fold.mono (by decide)) (pa_consD (pd_ix (pd_var 0) pd_int) (pa_consD (pd_ix (pd_var 1) pd_int) pa_nilD))))) sd_nil) (sd_cons (sd_if (PW.pt (pw_andD (pt_eq G (pd_ix (pd_var 0) pd_int) (pd_ix (pd_var 1) pd_int)) (pw_andD (pt_eq G (pd_ix (pd_var 0) pd_int) pd_int) (pw_and1D (pt_eq G (pd_ix (pd_var 1) pd_int) (pd_sub (pd_var 2) pd_int)))))) (sd_one (sd_ret (pd_callN G (O_do_fold.mono (by decide)) (pa_consD (pd_ix (pd_var 1) pd_int) (pa_consD (pd_ix (pd_var 0) pd_int) pa_nilD))))) sd_nil) (sd_one (sd_ret (pd_callN G (O_do_touch.mono (by decide)) (pa_consD (pd_ix (pd_var 0) pd_int) (pa_consD (pd_ix (pd_var 1) pd_int) pa_nilD)))))))))
theorem ok_is_too_near {P : Program} {w : World} {K : PySem.W.Frag} {mg : Str → Option Value} {base : Heap} {f : Addr} {fd : FuncData} (T : Tz K mg) (D : DefAt K mg "is_too_near" s_is_too_near f fd) (sm : ∃ o, base.get? sysModules = some o) (O_do_fold : Ok P w K mg base 3 "do_fold" ["one", "other"] sp_do_fold) (O_do_touch : Ok P w K mg base 3 "do_touch" ["one", "other"] sp_do_touch) : Ok P w K mg base 4 "is_too_near" ["one", "other"] sp_is_too_near := ok_mk D (fn_is_too_near T D sm O_do_fold O_do_touch) (fun _ _ _ _ _ _ us hl => match us, hl with | [_, _], _ => rfl)
/-! first_crossing -/
abbrev s_first_crossing : Stmt := topS 26
theorem sc_first_crossing : FnScope ["parts", "rows", "k", "one", "other"] ["parts"] (defScope s_first_crossing) := ⟨rfl, rfl, rfl, by decide +kernel, rfl, by decide +kernel, by decide +kernel⟩
def b_first_crossing : DS := (sSeq (sExp (dCall sp_need_parts [] (dCons (dVar 0) dNil))) (sSeq (sAsg (dCall sp_edges_of [] (dCons (dCall sp_in_wholes [] (dCons (dVar 0) dNil)) dNil)) (gN 1)) (sSeq (sFor (iEnumD (dCons (dVar 1) dNil)) (gTupD 2 (gConsD (gN 2) (gConsD (gN 3) gNilD))) (sFor (iSeq (dSl false (dVar 1) (dPart (dOp (fAdd false) (dVar 2) (dC (.int 1)))) dNo)) (gN 4) (sIf (tTru (dCall sp_is_too_near [] (dCons (dVar 3) (dCons (dVar 4) dNil)))) (sRet (dTup (dCons (dTup (dCons (dOp fIx (dVar 3) (dC (.int 0))) (dCons (dOp fIx (dVar 3) (dC (.int 3))) dNil))) (dCons (dTup (dCons (dOp fIx (dVar 4) (dC (.int 0))) (dCons (dOp fIx (dVar 4) (dC (.int 3))) dNil))) dNil)))) sNil))) (sRet (dC .non)))))
def sp_first_crossing : DSp := spOf 5 1 b_first_crossing
theorem fn_first_crossing {P : Program} {w : World} {K : PySem.W.Frag} {mg : Str → Option Value} {base : Heap} {f : Addr} {fd : FuncData} (T : Tz K mg) (D : DefAt K mg "first_crossing" s_first_crossing f fd) (sm : ∃ o, base.get? sysModules = some o) (O_edges_of : Ok P w K mg base 1 "edges_of" ["parts"] sp_edges_of) (O_in_wholes : Ok P w K mg base 3 "in_wholes" ["parts"] sp_in_wholes) (O_is_too_near : Ok P w K mg base 4 "is_too_near" ["one", "other"] sp_is_too_near) (O_need_parts : Ok P w K mg base 4 "need_parts" ["parts"] sp_need_parts) : FnG P w K mg base 5 f fd ["parts"] sp_first_crossing :=
  Fn_ok (k := 4) (b := b_first_crossing) D.F sc_first_crossing sm fun cdv A outer s H E G => (sd_cons (sd_exp (pd_callN G (O_need_parts.mono (by decide)) (pa_consD (pd_var 0) pa_nilD))) (sd_cons (sd_set 1 G.nd (pd_callN G (O_edges_of.mono (by decide)) (pa_consD (pd_callN G (O_in_wholes.mono (by decide)) (pa_consD (pd_var 0) pa_nilD)) pa_nilD))) (sd_cons (sd_for G (pi_enumD T.z_enumerate (pa_consD (pd_var 1) pa_nilD)) (pg_tupD G.calm (pgs_consD (pg_nameD (i := 2) G.nd) (pgs_consD (pg_nameD (i := 3) G.nd) pgs_nilD))) (sd_one (sd_for G (pi_seqD (pd_sl false (pd_var 1) (po_partD (pd_add false (pd_var 2) pd_int)) po_noD)) (pg_nameD (i := 4) G.nd) (sd_one (sd_if (pt_truD (pd_callN G (O_is_too_near.mono (by decide)) (pa_consD (pd_var 3) (pa_consD (pd_var 4) pa_nilD)))) (sd_one (sd_ret (pd_tup (pa_consD (pd_tup (pa_consD (pd_ix (pd_var 3) pd_int) (pa_consD (pd_ix (pd_var 3) pd_int) pa_nilD))) (pa_consD (pd_tup (pa_consD (pd_ix (pd_var 4) pd_int) (pa_consD (pd_ix (pd_var 4) pd_int) pa_nilD))) pa_nilD))))) sd_nil))))) (sd_one (sd_ret pd_non)))))
theorem ok_first_crossing {P : Program} {w : World} {K : PySem.W.Frag} {mg : Str → Option Value} {base : Heap} {f : Addr} {fd : FuncData} (T : Tz K mg) (D : DefAt K mg "first_crossing" s_first_crossing f fd) (sm : ∃ o, base.get? sysModules = some o) (O_edges_of : Ok P w K mg base 1 "edges_of" ["parts"] sp_edges_of) (O_in_wholes : Ok P w K mg base 3 "in_wholes" ["parts"] sp_in_wholes) (O_is_too_near : Ok P w K mg base 4 "is_too_near" ["one", "other"] sp_is_too_near) (O_need_parts : Ok P w K mg base 4 "need_parts" ["parts"] sp_need_parts) : Ok P w K mg base 5 "first_crossing" ["parts"] sp_first_crossing := ok_mk D (fn_first_crossing T D sm O_edges_of O_in_wholes O_is_too_near O_need_parts) (fun _ _ _ _ _ _ us hl => match us, hl with | [_], _ => rfl)
theorem okc_first_crossing_0_parts {P : Program} {w : World} {K : PySem.W.Frag} {mg : Str → Option Value} {base : Heap} {f : Addr} {fd : FuncData} (T : Tz K mg) (D : DefAt K mg "first_crossing" s_first_crossing f fd) (sm : ∃ o, base.get? sysModules = some o) (O_edges_of : Ok P w K mg base 1 "edges_of" ["parts"] sp_edges_of) (O_in_wholes : Ok P w K mg base 3 "in_wholes" ["parts"] sp_in_wholes) (O_is_too_near : Ok P w K mg base 4 "is_too_near" ["one", "other"] sp_is_too_near) (O_need_parts : Ok P w K mg base 4 "need_parts" ["parts"] sp_need_parts) : OkC P w K mg base 5 "first_crossing" 0 ["parts"] [0] [] sp_first_crossing := okC_of D (fn_first_crossing  T D sm O_edges_of O_in_wholes O_is_too_near O_need_parts) (fun _ _ _ _ _ _ us ws hl hk => match us, ws, hl, hk with | [], [_], _, _ => rfl)
/-! _law_cell -/
abbrev s__law_cell : Stmt := topS 28
theorem sc__law_cell : FnScope ["_law_script", "_law_k"] ["_law_script", "_law_k"] (defScope s__law_cell) := ⟨rfl, rfl, rfl, by decide +kernel, rfl, by decide +kernel, by decide +kernel⟩
def b__law_cell : DS := (sSeq (sIf (tBl (dOp fLtS (dVar 1) (dB fLen (dCons (dVar 0) dNil)))) (sRet (dOp fIx (dVar 0) (dVar 1))) sNil) (sRet (dOp (fAdd false) (dOp fMulI (dC (.int 86028121)) (dVar 1)) (dC (.int 25)))))
def sp__law_cell : DSp := spOf 2 2 b__law_cell
theorem fn__law_cell {P : Program} {w : World} {K : PySem.W.Frag} {mg : Str → Option Value} {base : Heap} {f : Addr} {fd : FuncData} (T : Tz K mg) (D : DefAt K mg "_law_cell" s__law_cell f fd) (sm : ∃ o, base.get? sysModules = some o)  : FnG P w K mg base 1 f fd ["_law_script", "_law_k"] sp__law_cell :=
  Fn_ok (k := 0) (b := b__law_cell) D.F sc__law_cell sm fun cdv A outer s H E G => (sd_cons (sd_if (pt_lt (pd_var 1) (pd_callB call_len sim_len T.z_len (pa_consD (pd_var 0) pa_nilD))) (sd_one (sd_ret (pd_ix (pd_var 0) (pd_var 1)))) sd_nil) (sd_one (sd_ret (pd_add false (pd_mulI pd_int (pd_var 1)) pd_int))))
theorem ok__law_cell {P : Program} {w : World} {K : PySem.W.Frag} {mg : Str → Option Value} {base : Heap} {f : Addr} {fd : FuncData} (T : Tz K mg) (D : DefAt K mg "_law_cell" s__law_cell f fd) (sm : ∃ o, base.get? sysModules = some o)  : Ok P w K mg base 1 "_law_cell" ["_law_script", "_law_k"] sp__law_cell := ok_mk D (fn__law_cell T D sm ) (fun _ _ _ _ _ _ us hl => match us, hl with | [_, _], _ => rfl)
/-! _law_box -/
abbrev s__law_box : Stmt := topS 29
theorem sc__law_box : FnScope ["_law_cell_here"] ["_law_cell_here"] (defScope s__law_box) := ⟨rfl, rfl, rfl, by decide +kernel, rfl, by decide +kernel, by decide +kernel⟩
def b__law_box : DS := (sRet (dLst true (dCons (dB fMax2 (dCons (dC (.int 0)) (dCons (dOp fSub (dVar 0) (dOp fPow (dC (.int 10)) (dC (.int 18)))) dNil))) (dCons (dOp fMod (dVar 0) (dC (.int 2147483629))) (dCons (dOp fMod (dVar 0) (dC (.int 2147483587))) (dCons (dC (.int 0)) dNil))))))
def sp__law_box : DSp := spOf 1 1 b__law_box
theorem fn__law_box {P : Program} {w : World} {K : PySem.W.Frag} {mg : Str → Option Value} {base : Heap} {f : Addr} {fd : FuncData} (T : Tz K mg) (D : DefAt K mg "_law_box" s__law_box f fd) (sm : ∃ o, base.get? sysModules = some o)  : FnG P w K mg base 1 f fd ["_law_cell_here"] sp__law_box :=
  Fn_ok (k := 0) (b := b__law_box) D.F sc__law_box sm fun cdv A outer s H E G => (sd_one (sd_ret (pd_lst true (pa_consD (pd_callB (call_max2 G.calm) sim_max2 T.z_max (pa_consD pd_int (pa_consD (pd_sub (pd_var 0) (pd_pow pd_int pd_int)) pa_nilD))) (pa_consD (pd_mod (pd_var 0) pd_int) (pa_consD (pd_mod (pd_var 0) pd_int) (pa_consD pd_int pa_nilD)))))))
theorem ok__law_box {P : Program} {w : World} {K : PySem.W.Frag} {mg : Str → Option Value} {base : Heap} {f : Addr} {fd : FuncData} (T : Tz K mg) (D : DefAt K mg "_law_box" s__law_box f fd) (sm : ∃ o, base.get? sysModules = some o)  : Ok P w K mg base 1 "_law_box" ["_law_cell_here"] sp__law_box := ok_mk D (fn__law_box T D sm ) (fun _ _ _ _ _ _ us hl => match us, hl with | [_], _ => rfl)
/-! _law_take -/
abbrev s__law_take : Stmt := topS 30
theorem sc__law_take : FnScope ["_law_box_here", "_law_many", "_law_digit", "_law_turn", "_law_one"] ["_law_box_here", "_law_many"] (defScope s__law_take) := ⟨rfl, rfl, rfl, by decide +kernel, rfl, by decide +kernel, by decide +kernel⟩
def b__law_take : DS := (sSeq (sIf (tBl (dOp fGtS (dOp fIx (dVar 0) (dC (.int 0))) (dC (.int 0)))) (sSeq (sAsg (dOp fMod (dOp fIx (dVar 0) (dC (.int 0))) (dVar 1)) (gN 2)) (sSeq (sAsg (dOp fDiv (dOp fIx (dVar 0) (dC (.int 0))) (dVar 1)) (gSubD (dVar 0) (dC (.int 0)) fSet)) (sRet (dVar 2)))) sNil) (sSeq (sAsg (dOp (fAdd false) (dOp fIx (dVar 0) (dC (.int 3))) (dC (.int 1))) (gSubD (dVar 0) (dC (.int 3)) fSet)) (sSeq (sAsg (dOp fIx (dVar 0) (dC (.int 3))) (gN 3)) (sSeq (sAsg (dOp fMod (dOp fPow (dOp (fAdd false) (dOp (fAdd false) (dOp fMulI (dOp fIx (dVar 0) (dC (.int 1))) (dOp (fAdd false) (dOp fMulI (dC (.int 2)) (dVar 3)) (dC (.int 3)))) (dOp fMulI (dOp fMulI (dC (.int 5381)) (dVar 3)) (dVar 3))) (dC (.int 25))) (dC (.int 5))) (dC (.int 2147483647))) (gN 4)) (sRet (dOp fMod (dOp fDiv (dOp fMod (dOp fPow (dOp (fAdd false) (dOp (fAdd false) (dVar 4) (dOp fMulI (dOp fIx (dVar 0) (dC (.int 2))) (dVar 3))) (dC (.int 47))) (dC (.int 3))) (dC (.int 2147483579))) (dC (.int 16))) (dVar 1)))))))
def sp__law_take : DSp := spOf 5 2 b__law_take
theorem fn__law_take {P : Program} {w : World} {K : PySem.W.Frag} {mg : Str → Option Value} {base : Heap} {f : Addr} {fd : FuncData} (T : Tz K mg) (D : DefAt K mg "_law_take" s__law_take f fd) (sm : ∃ o, base.get? sysModules = some o)  : FnG P w K mg base 1 f fd ["_law_box_here", "_law_many"] sp__law_take :=
  Fn_ok (k := 0) (b := b__law_take) D.F sc__law_take sm fun cdv A outer s H E G => (sd_cons (sd_if (pt_gt (pd_ix (pd_var 0) pd_int) pd_int) (sd_cons (sd_set 2 G.nd (pd_mod (pd_ix (pd_var 0) pd_int) (pd_var 1))) (sd_cons (sd_asg (pd_fdiv (pd_ix (pd_var 0) pd_int) (pd_var 1)) (pg_subD (pd_var 0) pd_int)) (sd_one (sd_ret (pd_var 2))))) sd_nil) (sd_cons (sd_asg (pd_add false (pd_ix (pd_var 0) pd_int) pd_int) (pg_subD (pd_var 0) pd_int)) (sd_cons (sd_set 3 G.nd (pd_ix (pd_var 0) pd_int)) (sd_cons (sd_set 4 G.nd (pd_mod (pd_pow (pd_add false (pd_add false (pd_mulI (pd_ix (pd_var 0) pd_int) (pd_add false (pd_mulI pd_int (pd_var 3)) pd_int)) (pd_mulI (pd_mulI pd_int (pd_var 3)) (pd_var 3))) pd_int) pd_int) pd_int)) (sd_one (sd_ret (pd_mod (pd_fdiv (pd_mod (pd_pow (pd_add false (pd_add false (pd_var 4) (pd_mulI (pd_ix (pd_var 0) pd_int) (pd_var 3))) pd_int) pd_int) pd_int) pd_int) (pd_var 1))))))))
theorem ok__law_take {P : Program} {w : World} {K : PySem.W.Frag} {mg : Str → Option Value} {base : Heap} {f : Addr} {fd : FuncData} (T : Tz K mg) (D : DefAt K mg "_law_take" s__law_take f fd) (sm : ∃ o, base.get? sysModules = some o)  : Ok P w K mg base 1 "_law_take" ["_law_box_here", "_law_many"] sp__law_take := ok_mk D (fn__law_take T D sm ) (fun _ _ _ _ _ _ us hl => match us, hl with | [_, _], _ => rfl)
/-! _law_number -/
abbrev s__law_number : Stmt := topS 31
theorem sc__law_number : FnScope ["_law_top", "_law_base", "_law_one", "_law_other"] ["_law_top", "_law_base"] (defScope s__law_number) := ⟨rfl, rfl, rfl, by decide +kernel, rfl, by decide +kernel, by decide +kernel⟩
def b__law_number : DS := (sSeq (sPar 2 3 (dCons (dB fAbs (dCons (dVar 0) dNil)) (dCons (dVar 1) dNil))) (sSeq (sWhile (tBl (dOp fGtS (dVar 3) (dC (.int 0)))) (sPar 2 3 (dCons (dVar 3) (dCons (dOp fMod (dVar 2) (dVar 3)) dNil)))) (sRet (dIf (tBl (dOp fEq (dVar 1) (dVar 2))) (dOp fDiv (dVar 0) (dVar 2)) (dTup (dCons (dOp fDiv (dVar 0) (dVar 2)) (dCons (dOp fDiv (dVar 1) (dVar 2)) dNil)))))))
def sp__law_number : DSp := spOf 4 2 b__law_number
theorem fn__law_number {P : Program} {w : World} {K : PySem.W.Frag} {mg : Str → Option Value} {base : Heap} {f : Addr} {fd : FuncData} (T : Tz K mg) (D : DefAt K mg "_law_number" s__law_number f fd) (sm : ∃ o, base.get? sysModules = some o)  : FnG P w K mg base 1 f fd ["_law_top", "_law_base"] sp__law_number :=
  Fn_ok (k := 0) (b := b__law_number) D.F sc__law_number sm fun cdv A outer s H E G => (sd_cons (sd_par 2 3 (fun _ h => ps_par G.calm G.nd rfl rfl (by decide) rfl rfl h (by rfl)) (pa_consD (pd_callB call_abs sim_abs T.z_abs (pa_consD (pd_var 0) pa_nilD)) (pa_consD (pd_var 1) pa_nilD))) (sd_cons (sd_while G (pt_gt (pd_var 3) pd_int) (sd_one (sd_par 2 3 (fun _ h => ps_par G.calm G.nd rfl rfl (by decide) rfl rfl h (by rfl)) (pa_consD (pd_var 3) (pa_consD (pd_mod (pd_var 2) (pd_var 3)) pa_nilD))))) (sd_one (sd_ret (pd_if (pt_eq G (pd_var 1) (pd_var 2)) (pd_fdiv (pd_var 0) (pd_var 2)) (pd_tup (pa_consD (pd_fdiv (pd_var 0) (pd_var 2)) (pa_consD (pd_fdiv (pd_var 1) (pd_var 2)) pa_nilD))))))))
theorem ok__law_number {P : Program} {w : World} {K : PySem.W.Frag} {mg : Str → Option Value} {base : Heap} {f : Addr} {fd : FuncData} (T : Tz K mg) (D : DefAt K mg "_law_number" s__law_number f fd) (sm : ∃ o, base.get? sysModules = some o)  : Ok P w K mg base 1 "_law_number" ["_law_top", "_law_base"] sp__law_number := ok_mk D (fn__law_number T D sm ) (fun _ _ _ _ _ _ us hl => match us, hl with | [_, _], _ => rfl)
/-! _law_told -/
abbrev s__law_told : Stmt := topS 32
theorem sc__law_told : FnScope ["_law_pairs", "_law_base", "_law_x", "_law_y"] ["_law_pairs", "_law_base"] (defScope s__law_told) := ⟨rfl, rfl, rfl, by decide +kernel, rfl, by decide +kernel, by decide +kernel⟩
def b__law_told : DS := (sRet (dLc false (iSeq (dVar 0)) (.inr [2, 3]) tYesD (dTup (dCons (dCall sp__law_number [] (dCons (dVar 2) (dCons (dVar 1) dNil))) (dCons (dCall sp__law_number [] (dCons (dVar 3) (dCons (dVar 1) dNil))) dNil))) [2, 3]))
def sp__law_told : DSp := spOf 4 2 b__law_told
theorem fn__law_told {P : Program} {w : World} {K : PySem.W.Frag} {mg : Str → Option Value} {base : Heap} {f : Addr} {fd : FuncData} (T : Tz K mg) (D : DefAt K mg "_law_told" s__law_told f fd) (sm : ∃ o, base.get? sysModules = some o) (O__law_number : Ok P w K mg base 1 "_law_number" ["_law_top", "_law_base"] sp__law_number) : FnG P w K mg base 2 f fd ["_law_pairs", "_law_base"] sp__law_told :=
  Fn_ok (k := 1) (b := b__law_told) D.F sc__law_told sm fun cdv A outer s H E G => (sd_one (sd_ret (pd_lc false [("_law_x", 2), ("_law_y", 3)] (.inr [2, 3]) G (pi_seqD (pd_var 0)) (fun _ _ _ _ _ => pg_tup G.calm (pgs_cons (pg_name G.nd rfl (by first | exact Or.inl rfl | exact Or.inr rfl)) (pgs_cons (pg_name G.nd rfl (by first | exact Or.inl rfl | exact Or.inr rfl)) pgs_nil))) (fun _ _ _ _ _ => pts_nilD) (fun _ _ _ _ _ => (pd_tup (pa_consD (pd_callN G.blk (O__law_number.mono (by decide)) (pa_consD (pd_var 2) (pa_consD (pd_var 1) pa_nilD))) (pa_consD (pd_callN G.blk (O__law_number.mono (by decide)) (pa_consD (pd_var 3) (pa_consD (pd_var 1) pa_nilD))) pa_nilD)))))))
theorem ok__law_told {P : Program} {w : World} {K : PySem.W.Frag} {mg : Str → Option Value} {base : Heap} {f : Addr} {fd : FuncData} (T : Tz K mg) (D : DefAt K mg "_law_told" s__law_told f fd) (sm : ∃ o, base.get? sysModules = some o) (O__law_number : Ok P w K mg base 1 "_law_number" ["_law_top", "_law_base"] sp__law_number) : Ok P w K mg base 2 "_law_told" ["_law_pairs", "_law_base"] sp__law_told := ok_mk D (fn__law_told T D sm O__law_number) (fun _ _ _ _ _ _ us hl => match us, hl with | [_, _], _ => rfl)
/-! _law_edges -/
abbrev s__law_edges : Stmt := topS 33
theorem sc__law_edges : FnScope ["_law_rows", "_law_found", "_law_number_here", "_law_pairs", "_law_some", "_law_k", "_law_x", "_law_y", "_law_then"] ["_law_rows"] (defScope s__law_edges) := ⟨rfl, rfl, rfl, by decide +kernel, rfl, by decide +kernel, by decide +kernel⟩
def b__law_edges : DS := (sSeq (sAsg (dLst true dNil) (gN 1)) (sSeq (sFor (iEnumD (dCons (dVar 0) dNil)) (gTupD 2 (gConsD (gN 2) (gConsD (gN 3) gNilD))) (sSeq (sAsg (dC (.int 0)) (gN 4)) (sFor (iEnumD (dCons (dVar 3) dNil)) (gTupD 2 (gConsD (gN 5) (gConsD (gTupD 2 (gConsD (gN 6) (gConsD (gN 7) gNilD))) gNilD))) (sSeq (sAsg (dOp fIx (dVar 3) (dOp fMod (dOp (fAdd false) (dVar 5) (dC (.int 1))) (dB fLen (dCons (dVar 3) dNil)))) (gN 8)) (sIf (tBl (dOp fNe (dVar 8) (dTup (dCons (dVar 6) (dCons (dVar 7) dNil))))) (sSeq (sExp (dBM "list" fAppend (dVar 1) (dCons (dTup (dCons (dVar 2) (dCons (dVar 5) (dCons (dTup (dCons (dVar 6) (dCons (dVar 7) dNil))) (dCons (dTup (dCons (dOp fSub (dOp fIx (dVar 8) (dC (.int 0))) (dVar 6)) (dCons (dOp fSub (dOp fIx (dVar 8) (dC (.int 1))) (dVar 7)) dNil))) (dCons (dVar 4) dNil)))))) dNil))) (sAsg (dOp (fAdd false) (dVar 4) (dC (.int 1))) (gN 4))) sNil))))) (sRet (dVar 1))))
def sp__law_edges : DSp := spOf 9 1 b__law_edges
theorem fn__law_edges {P : Program} {w : World} {K : PySem.W.Frag} {mg : Str → Option Value} {base : Heap} {f : Addr} {fd : FuncData} (T : Tz K mg) (D : DefAt K mg "_law_edges" s__law_edges f fd) (sm : ∃ o, base.get? sysModules = some o)  : FnG P w K mg base 1 f fd ["_law_rows"] sp__law_edges :=
  Fn_ok (k := 0) (b := b__law_edges) D.F sc__law_edges sm fun cdv A outer s H E G => (sd_cons (sd_set 1 G.nd (pd_lst true pa_nilD)) (sd_cons (sd_for G (pi_enumD T.z_enumerate (pa_consD (pd_var 0) pa_nilD)) (pg_tupD G.calm (pgs_consD (pg_nameD (i := 2) G.nd) (pgs_consD (pg_nameD (i := 3) G.nd) pgs_nilD))) (sd_cons (sd_set 4 G.nd pd_int) (sd_one (sd_for G (pi_enumD T.z_enumerate (pa_consD (pd_var 3) pa_nilD)) (pg_tupD G.calm (pgs_consD (pg_nameD (i := 5) G.nd) (pgs_consD (pg_tupD G.calm (pgs_consD (pg_nameD (i := 6) G.nd) (pgs_consD (pg_nameD (i := 7) G.nd) pgs_nilD))) pgs_nilD))) (sd_cons (sd_set 8 G.nd (pd_ix (pd_var 3) (pd_mod (pd_add false (pd_var 5) pd_int) (pd_callB call_len sim_len T.z_len (pa_consD (pd_var 3) pa_nilD))))) (sd_one (sd_if (pt_ne G (pd_var 8) (pd_tup (pa_consD (pd_var 6) (pa_consD (pd_var 7) pa_nilD)))) (sd_cons (sd_exp (pd_append (pd_var 1) (pa_consD (pd_tup (pa_consD (pd_var 2) (pa_consD (pd_var 5) (pa_consD (pd_tup (pa_consD (pd_var 6) (pa_consD (pd_var 7) pa_nilD))) (pa_consD (pd_tup (pa_consD (pd_sub (pd_ix (pd_var 8) pd_int) (pd_var 6)) (pa_consD (pd_sub (pd_ix (pd_var 8) pd_int) (pd_var 7)) pa_nilD))) (pa_consD (pd_var 4) pa_nilD)))))) pa_nilD))) (sd_one (sd_set 4 G.nd (pd_add false (pd_var 4) pd_int)))) sd_nil))))))) (sd_one (sd_ret (pd_var 1)))))
theorem ok__law_edges {P : Program} {w : World} {K : PySem.W.Frag} {mg : Str → Option Value} {base : Heap} {f : Addr} {fd : FuncData} (T : Tz K mg) (D : DefAt K mg "_law_edges" s__law_edges f fd) (sm : ∃ o, base.get? sysModules = some o)  : Ok P w K mg base 1 "_law_edges" ["_law_rows"] sp__law_edges := ok_mk D (fn__law_edges T D sm ) (fun _ _ _ _ _ _ us hl => match us, hl with | [_], _ => rfl)
/-! _law_cross -/
abbrev s__law_cross : Stmt := topS 34
theorem sc__law_cross : FnScope ["_law_one", "_law_other"] ["_law_one", "_law_other"] (defScope s__law_cross) := ⟨rfl, rfl, rfl, by decide +kernel, rfl, by decide +kernel, by decide +kernel⟩
def b__law_cross : DS := (sRet (dOp fSub (dOp fMulI (dOp fIx (dVar 0) (dC (.int 0))) (dOp fIx (dVar 1) (dC (.int 1)))) (dOp fMulI (dOp fIx (dVar 0) (dC (.int 1))) (dOp fIx (dVar 1) (dC (.int 0))))))
def sp__law_cross : DSp := spOf 2 2 b__law_cross
theorem fn__law_cross {P : Program} {w : World} {K : PySem.W.Frag} {mg : Str → Option Value} {base : Heap} {f : Addr} {fd : FuncData} (T : Tz K mg) (D : DefAt K mg "_law_cross" s__law_cross f fd) (sm : ∃ o, base.get? sysModules = some o)  : FnG P w K mg base 1 f fd ["_law_one", "_law_other"] sp__law_cross :=
  Fn_ok (k := 0) (b := b__law_cross) D.F sc__law_cross sm fun cdv A outer s H E G => (sd_one (sd_ret (pd_sub (pd_mulI (pd_ix (pd_var 0) pd_int) (pd_ix (pd_var 1) pd_int)) (pd_mulI (pd_ix (pd_var 0) pd_int) (pd_ix (pd_var 1) pd_int)))))
theorem ok__law_cross {P : Program} {w : World} {K : PySem.W.Frag} {mg : Str → Option Value} {base : Heap} {f : Addr} {fd : FuncData} (T : Tz K mg) (D : DefAt K mg "_law_cross" s__law_cross f fd) (sm : ∃ o, base.get? sysModules = some o)  : Ok P w K mg base 1 "_law_cross" ["_law_one", "_law_other"] sp__law_cross := ok_mk D (fn__law_cross T D sm ) (fun _ _ _ _ _ _ us hl => match us, hl with | [_, _], _ => rfl)
/-! _law_along -/
abbrev s__law_along : Stmt := topS 35
theorem sc__law_along : FnScope ["_law_step", "_law_begin", "_law_place"] ["_law_step", "_law_begin", "_law_place"] (defScope s__law_along) := ⟨rfl, rfl, rfl, by decide +kernel, rfl, by decide +kernel, by decide +kernel⟩
def b__law_along : DS := (sRet (dOp (fAdd false) (dOp fMulI (dOp fSub (dOp fIx (dVar 2) (dC (.int 0))) (dOp fIx (dVar 1) (dC (.int 0)))) (dOp fIx (dVar 0) (dC (.int 0)))) (dOp fMulI (dOp fSub (dOp fIx (dVar 2) (dC (.int 1))) (dOp fIx (dVar 1) (dC (.int 1)))) (dOp fIx (dVar 0) (dC (.int 1))))))
def sp__law_along : DSp := spOf 3 3 b__law_along
theorem fn__law_along {P : Program} {w : World} {K : PySem.W.Frag} {mg : Str → Option Value} {base : Heap} {f : Addr} {fd : FuncData} (T : Tz K mg) (D : DefAt K mg "_law_along" s__law_along f fd) (sm : ∃ o, base.get? sysModules = some o)  : FnG P w K mg base 1 f fd ["_law_step", "_law_begin", "_law_place"] sp__law_along :=
  Fn_ok (k := 0) (b := b__law_along) D.F sc__law_along sm fun cdv A outer s H E G => (sd_one (sd_ret (pd_add false (pd_mulI (pd_sub (pd_ix (pd_var 2) pd_int) (pd_ix (pd_var 1) pd_int)) (pd_ix (pd_var 0) pd_int)) (pd_mulI (pd_sub (pd_ix (pd_var 2) pd_int) (pd_ix (pd_var 1) pd_int)) (pd_ix (pd_var 0) pd_int)))))
theorem ok__law_along {P : Program} {w : World} {K : PySem.W.Frag} {mg : Str → Option Value} {base : Heap} {f : Addr} {fd : FuncData} (T : Tz K mg) (D : DefAt K mg "_law_along" s__law_along f fd) (sm : ∃ o, base.get? sysModules = some o)  : Ok P w K mg base 1 "_law_along" ["_law_step", "_law_begin", "_law_place"] sp__law_along := ok_mk D (fn__law_along T D sm ) (fun _ _ _ _ _ _ us hl => match us, hl with | [_, _, _], _ => rfl)
/-! _law_shared -/
abbrev s__law_shared : Stmt := topS 36
theorem sc__law_shared : FnScope ["_law_one", "_law_other", "_law_begin", "_law_step", "_law_between", "_law_turn", "_law_end", "_law_low", "_law_high", "_law_way", "_law_here", "_law_there"] ["_law_one", "_law_other"] (defScope s__law_shared) := ⟨rfl, rfl, rfl, by decide +kernel, rfl, by decide +kernel, by decide +kernel⟩
def b__law_shared : DS := (sSeq (sPar 2 3 (dCons (dOp fIx (dVar 0) (dC (.int 2))) (dCons (dOp fIx (dVar 0) (dC (.int 3))) dNil))) (sSeq (sAsg (dTup (dCons (dOp fSub (dOp fIx (dOp fIx (dVar 1) (dC (.int 2))) (dC (.int 0))) (dOp fIx (dVar 2) (dC (.int 0)))) (dCons (dOp fSub (dOp fIx (dOp fIx (dVar 1) (dC (.int 2))) (dC (.int 1))) (dOp fIx (dVar 2) (dC (.int 1)))) dNil))) (gN 4)) (sSeq (sAsg (dCall sp__law_cross [] (dCons (dVar 3) (dCons (dOp fIx (dVar 1) (dC (.int 3))) dNil))) (gN 5)) (sSeq (sIf (tBl (dOp fEq (dVar 5) (dC (.int 0)))) (sSeq (sIf (tBl (dOp fNe (dCall sp__law_cross [] (dCons (dVar 3) (dCons (dVar 4) dNil))) (dC (.int 0)))) (sRet (dC (.bl false))) sNil) (sSeq (sAsg (dTup (dCons (dOp (fAdd false) (dOp fIx (dOp fIx (dVar 1) (dC (.int 2))) (dC (.int 0))) (dOp fIx (dOp fIx (dVar 1) (dC (.int 3))) (dC (.int 0)))) (dCons (dOp (fAdd false) (dOp fIx (dOp fIx (dVar 1) (dC (.int 2))) (dC (.int 1))) (dOp fIx (dOp fIx (dVar 1) (dC (.int 3))) (dC (.int 1)))) dNil))) (gN 6)) (sSeq (sAsg (dB fSortI (dCons (dLst false (dCons (dCall sp__law_along [] (dCons (dVar 3) (dCons (dVar 2) (dCons (dOp fIx (dVar 1) (dC (.int 2))) dNil)))) (dCons (dCall sp__law_along [] (dCons (dVar 3) (dCons (dVar 2) (dCons (dVar 6) dNil)))) dNil))) dNil)) (gLstD 2 (gConsD (gN 7) (gConsD (gN 8) gNilD)))) (sRet (dAnd (dOp fLeS (dVar 7) (dCall sp__law_along [] (dCons (dVar 3) (dCons (dTup (dCons (dC (.int 0)) (dCons (dC (.int 0)) dNil))) (dCons (dVar 3) dNil))))) (dOp fGeS (dVar 8) (dC (.int 0)))))))) sNil) (sSeq (sAsg (dOp fIx (dLst false (dCons (dC (.int 1)) (dCons (dUn fNeg (dC (.int 1))) dNil))) (dB fInt (dCons (dOp fLtS (dVar 5) (dC (.int 0))) dNil))) (gN 9)) (sSeq (sPar 10 11 (dCons (dOp fMulI (dCall sp__law_cross [] (dCons (dVar 4) (dCons (dOp fIx (dVar 1) (dC (.int 3))) dNil))) (dVar 9)) (dCons (dOp fMulI (dCall sp__law_cross [] (dCons (dVar 4) (dCons (dVar 3) dNil))) (dVar 9)) dNil))) (sRet (dAnd (dChain fLeS fLeS (dC (.int 0)) (dVar 10) (dOp fMulI (dVar 5) (dVar 9))) (dChain fLeS fLeS (dC (.int 0)) (dVar 11) (dOp fMulI (dVar 5) (dVar 9)))))))))))
def sp__law_shared : DSp := spOf 12 2 b__law_shared
theorem fn__law_shared {P : Program} {w : World} {K : PySem.W.Frag} {mg : Str → Option Value} {base : Heap} {f : Addr} {fd : FuncData} (T : Tz K mg) (D : DefAt K mg "_law_shared" s__law_shared f fd) (sm : ∃ o, base.get? sysModules = some o) (O__law_along : Ok P w K mg base 1 "_law_along" ["_law_step", "_law_begin", "_law_place"] sp__law_along) (O__law_cross : Ok P w K mg base 1 "_law_cross" ["_law_one", "_law_other"] sp__law_cross) : FnG P w K mg base 2 f fd ["_law_one", "_law_other"] sp__law_shared :=
  Fn_ok (k := 1) (b := b__law_shared) D.F sc__law_shared sm fun cdv A outer s H E G => (sd_cons (sd_par 2 3 (fun _ h => ps_par G.calm G.nd rfl rfl (by decide) rfl rfl h (by rfl)) (pa_consD (pd_ix (pd_var 0) pd_int) (pa_consD (pd_ix (pd_var 0) pd_int) pa_nilD))) (sd_cons (sd_set 4 G.nd (pd_tup (pa_consD (pd_sub (pd_ix (pd_ix (pd_var 1) pd_int) pd_int) (pd_ix (pd_var 2) pd_int)) (pa_consD (pd_sub (pd_ix (pd_ix (pd_var 1) pd_int) pd_int) (pd_ix (pd_var 2) pd_int)) pa_nilD)))) (sd_cons (sd_set 5 G.nd (pd_callN G (O__law_cross.mono (by decide)) (pa_consD (pd_var 3) (pa_consD (pd_ix (pd_var 1) pd_int) pa_nilD)))) (sd_cons (sd_if (pt_eq G (pd_var 5) pd_int) (sd_cons (sd_if (pt_ne G (pd_callN G (O__law_cross.mono (by decide)) (pa_consD (pd_var 3) (pa_consD (pd_var 4) pa_nilD))) pd_int) (sd_one (sd_ret pd_bl)) sd_nil) (sd_cons (sd_set 6 G.nd (pd_tup (pa_consD (pd_add false (pd_ix (pd_ix (pd_var 1) pd_int) pd_int) (pd_ix (pd_ix (pd_var 1) pd_int) pd_int)) (pa_consD (pd_add false (pd_ix (pd_ix (pd_var 1) pd_int) pd_int) (pd_ix (pd_ix (pd_var 1) pd_int) pd_int)) pa_nilD)))) (sd_cons (sd_asg (pd_callB cr_sortedI sim_sortI T.z_sorted (pa_consD (pd_lst false (pa_consD (pd_callN G (O__law_along.mono (by decide)) (pa_consD (pd_var 3) (pa_consD (pd_var 2) (pa_consD (pd_ix (pd_var 1) pd_int) pa_nilD)))) (pa_consD (pd_callN G (O__law_along.mono (by decide)) (pa_consD (pd_var 3) (pa_consD (pd_var 2) (pa_consD (pd_var 6) pa_nilD)))) pa_nilD))) pa_nilD)) (pg_lstD G.calm (pgs_consD (pg_nameD (i := 7) G.nd) (pgs_consD (pg_nameD (i := 8) G.nd) pgs_nilD)))) (sd_one (sd_ret (pd_and (pd_le (pd_var 7) (pd_callN G (O__law_along.mono (by decide)) (pa_consD (pd_var 3) (pa_consD (pd_tup (pa_consD pd_int (pa_consD pd_int pa_nilD))) (pa_consD (pd_var 3) pa_nilD))))) (pd_one (pd_ge (pd_var 8) pd_int)))))))) sd_nil) (sd_cons (sd_set 9 G.nd (pd_ix (pd_lst false (pa_consD pd_int (pa_consD (pd_neg pd_int) pa_nilD))) (pd_callTy call_int1 sim_int T.z_int (pa_consD (pd_lt (pd_var 5) pd_int) pa_nilD)))) (sd_cons (sd_par 10 11 (fun _ h => ps_par G.calm G.nd rfl rfl (by decide) rfl rfl h (by rfl)) (pa_consD (pd_mulI (pd_callN G (O__law_cross.mono (by decide)) (pa_consD (pd_var 4) (pa_consD (pd_ix (pd_var 1) pd_int) pa_nilD))) (pd_var 9)) (pa_consD (pd_mulI (pd_callN G (O__law_cross.mono (by decide)) (pa_consD (pd_var 4) (pa_consD (pd_var 3) pa_nilD))) (pd_var 9)) pa_nilD))) (sd_one (sd_ret (pd_and (pd_chain op_leS sim_ord op_leS sim_ord pd_int (pd_var 10) (pd_mulI (pd_var 5) (pd_var 9))) (pd_one (pd_chain op_leS sim_ord op_leS sim_ord pd_int (pd_var 11) (pd_mulI (pd_var 5) (pd_var 9)))))))))))))
theorem ok__law_shared {P : Program} {w : World} {K : PySem.W.Frag} {mg : Str → Option Value} {base : Heap} {f : Addr} {fd : FuncData} (T : Tz K mg) (D : DefAt K mg "_law_shared" s__law_shared f fd) (sm : ∃ o, base.get? sysModules = some o) (O__law_along : Ok P w K mg base 1 "_law_along" ["_law_step", "_law_begin", "_law_place"] sp__law_along) (O__law_cross : Ok P w K mg base 1 "_law_cross" ["_law_one", "_law_other"] sp__law_cross) : Ok P w K mg base 2 "_law_shared" ["_law_one", "_law_other"] sp__law_shared := ok_mk D (fn__law_shared T D sm O__law_along O__law_cross) (fun _ _ _ _ _ _ us hl => match us, hl with | [_, _], _ => rfl)
/-! _law_folded -/
abbrev s__law_folded : Stmt := topS 37
theorem sc__law_folded : FnScope ["_law_one", "_law_other", "_law_back"] ["_law_one", "_law_other"] (defScope s__law_folded) := ⟨rfl, rfl, rfl, by decide +kernel, rfl, by decide +kernel, by decide +kernel⟩
def b__law_folded : DS := (sSeq (sAsg (dOp (fAdd false) (dOp fMulI (dOp fIx (dOp fIx (dVar 0) (dC (.int 3))) (dC (.int 0))) (dOp fIx (dOp fIx (dVar 1) (dC (.int 3))) (dC (.int 0)))) (dOp fMulI (dOp fIx (dOp fIx (dVar 0) (dC (.int 3))) (dC (.int 1))) (dOp fIx (dOp fIx (dVar 1) (dC (.int 3))) (dC (.int 1))))) (gN 2)) (sRet (dAnd (dOp fEq (dCall sp__law_cross [] (dCons (dOp fIx (dVar 0) (dC (.int 3))) (dCons (dOp fIx (dVar 1) (dC (.int 3))) dNil))) (dC (.int 0))) (dOp fLtS (dVar 2) (dC (.int 0))))))
def sp__law_folded : DSp := spOf 3 2 b__law_folded
theorem fn__law_folded {P : Program} {w : World} {K : PySem.W.Frag} {mg : Str → Option Value} {base : Heap} {f : Addr} {fd : FuncData} (T : Tz K mg) (D : DefAt K mg "_law_folded" s__law_folded f fd) (sm : ∃ o, base.get? sysModules = some o) (O__law_cross : Ok P w K mg base 1 "_law_cross" ["_law_one", "_law_other"] sp__law_cross) : FnG P w K mg base 2 f fd ["_law_one", "_law_other"] sp__law_folded :=
  Fn_ok (k := 1) (b := b__law_folded) D.F sc__law_folded sm fun cdv A outer s H E G => (sd_cons (sd_set 2 G.nd (pd_add false (pd_mulI (pd_ix (pd_ix (pd_var 0) pd_int) pd_int) (pd_ix (pd_ix (pd_var 1) pd_int) pd_int)) (pd_mulI (pd_ix (pd_ix (pd_var 0) pd_int) pd_int) (pd_ix (pd_ix (pd_var 1) pd_int) pd_int)))) (sd_one (sd_ret (pd_and (pd_eq G (pd_callN G (O__law_cross.mono (by decide)) (pa_consD (pd_ix (pd_var 0) pd_int) (pa_consD (pd_ix (pd_var 1) pd_int) pa_nilD))) pd_int) (pd_one (pd_lt (pd_var 2) pd_int))))))
theorem ok__law_folded {P : Program} {w : World} {K : PySem.W.Frag} {mg : Str → Option Value} {base : Heap} {f : Addr} {fd : FuncData} (T : Tz K mg) (D : DefAt K mg "_law_folded" s__law_folded f fd) (sm : ∃ o, base.get? sysModules = some o) (O__law_cross : Ok P w K mg base 1 "_law_cross" ["_law_one", "_law_other"] sp__law_cross) : Ok P w K mg base 2 "_law_folded" ["_law_one", "_law_other"] sp__law_folded := ok_mk D (fn__law_folded T D sm O__law_cross) (fun _ _ _ _ _ _ us hl => match us, hl with | [_, _], _ => rfl)
/-! _law_due -/
abbrev s__law_due : Stmt := topS 38
theorem sc__law_due : FnScope ["_law_rows", "_law_edges_here", "_law_sizes", "_law_k", "_law_one", "_law_other", "_law_many", "_law_bad", "_law_number_here"] ["_law_rows"] (defScope s__law_due) := ⟨rfl, rfl, rfl, by decide +kernel, rfl, by decide +kernel, by decide +kernel⟩
def b__law_due : DS := (sSeq (sAsg (dCall sp__law_edges [] (dCons (dVar 0) dNil)) (gN 1)) (sSeq (sAsg (dLc false (iRange1 (dCons (dB fLen (dCons (dVar 0) dNil)) dNil)) (.inl 8) tYesD (dB fLen (dCons (dLc false (iSeq (dVar 1)) (.inl 4) (tBl (dOp fEq (dOp fIx (dVar 4) (dC (.int 0))) (dVar 8))) (dVar 4) [4]) dNil)) [8]) (gN 2)) (sSeq (sFor (iEnumD (dCons (dVar 1) dNil)) (gTupD 2 (gConsD (gN 3) (gConsD (gN 4) gNilD))) (sFor (iSeq (dSl false (dVar 1) (dPart (dOp (fAdd false) (dVar 3) (dC (.int 1)))) dNo)) (gN 5) (sSeq (sAsg (dOp fIx (dVar 2) (dOp fIx (dVar 4) (dC (.int 0)))) (gN 6)) (sSeq (sIf (tAndD (tBl (dOp fEq (dOp fIx (dVar 4) (dC (.int 0))) (dOp fIx (dVar 5) (dC (.int 0))))) (tAndD (tBl (dOp fGtS (dVar 6) (dC (.int 2)))) (tBl (dOp fEq (dOp fIx (dVar 5) (dC (.int 4))) (dOp (fAdd false) (dOp fIx (dVar 4) (dC (.int 4))) (dC (.int 1))))))) (sAsg (dCall sp__law_folded [] (dCons (dVar 4) (dCons (dVar 5) dNil))) (gN 7)) (sIf (tAndD (tBl (dOp fEq (dOp fIx (dVar 4) (dC (.int 0))) (dOp fIx (dVar 5) (dC (.int 0))))) (tAndD (tBl (dOp fGtS (dVar 6) (dC (.int 2)))) (tBl (dOp fEq (dTup (dCons (dOp fIx (dVar 4) (dC (.int 4))) (dCons (dOp fIx (dVar 5) (dC (.int 4))) dNil))) (dTup (dCons (dC (.int 0)) (dCons (dOp fSub (dVar 6) (dC (.int 1))) dNil))))))) (sAsg (dCall sp__law_folded [] (dCons (dVar 5) (dCons (dVar 4) dNil))) (gN 7)) (sAsg (dCall sp__law_shared [] (dCons (dVar 4) (dCons (dVar 5) dNil))) (gN 7)))) (sIf (tTru (dVar 7)) (sRet (dTup (dCons (dTup (dCons (dOp fIx (dVar 4) (dC (.int 0))) (dCons (dOp fIx (dVar 4) (dC (.int 1))) dNil))) (dCons (dTup (dCons (dOp fIx (dVar 5) (dC (.int 0))) (dCons (dOp fIx (dVar 5) (dC (.int 1))) dNil))) dNil)))) sNil))))) (sRet (dC .non)))))
def sp__law_due : DSp := spOf 9 1 b__law_due
theorem fn__law_due {P : Program} {w : World} {K : PySem.W.Frag} {mg : Str → Option Value} {base : Heap} {f : Addr} {fd : FuncData} (T : Tz K mg) (D : DefAt K mg "_law_due" s__law_due f fd) (sm : ∃ o, base.get? sysModules = some o) (O__law_edges : Ok P w K mg base 1 "_law_edges" ["_law_rows"] sp__law_edges) (O__law_folded : Ok P w K mg base 2 "_law_folded" ["_law_one", "_law_other"] sp__law_folded) (O__law_shared : Ok P w K mg base 2 "_law_shared" ["_law_one", "_law_other"] sp__law_shared) : FnG P w K mg base 3 f fd ["_law_rows"] sp__law_due :=
  Fn_ok (k := 2) (b := b__law_due) D.F sc__law_due sm fun cdv A outer s H E G => (sd_cons (sd_set 1 G.nd (pd_callN G (O__law_edges.mono (by decide)) (pa_consD (pd_var 0) pa_nilD))) (sd_cons (sd_setLc 2 false [("_law_number_here", 8)] (.inl 8) G (pi_range1D T.z_range (pa_consD (pd_callB call_len sim_len T.z_len (pa_consD (pd_var 0) pa_nilD)) pa_nilD)) (fun _ _ _ _ _ => pg_name G.nd rfl (by first | exact Or.inl rfl | exact Or.inr rfl)) (fun _ _ _ _ _ => pts_nilD) (fun _ _ _ _ _ => (pd_callB call_len sim_len T.z_len (pa_consD (pd_lc false [("_law_one", 4)] (.inl 4) G.blk (pi_seqD (pd_var 1)) (fun _ _ _ _ _ => pg_name G.blk.nd rfl (by first | exact Or.inl rfl | exact Or.inr rfl)) (fun _ _ _ _ _ => pts_oneD (pt_eq G.blk.blk (pd_ix (pd_var 4) pd_int) (pd_var 8))) (fun _ _ _ _ _ => (pd_var 4))) pa_nilD)))) (sd_cons (sd_for G (pi_enumD T.z_enumerate (pa_consD (pd_var 1) pa_nilD)) (pg_tupD G.calm (pgs_consD (pg_nameD (i := 3) G.nd) (pgs_consD (pg_nameD (i := 4) G.nd) pgs_nilD))) (sd_one (sd_for G (pi_seqD (pd_sl false (pd_var 1) (po_partD (pd_add false (pd_var 3) pd_int)) po_noD)) (pg_nameD (i := 5) G.nd) (sd_cons (sd_set 6 G.nd (pd_ix (pd_var 2) (pd_ix (pd_var 4) pd_int))) (sd_cons (sd_if (PW.pt (pw_andD (pt_eq G (pd_ix (pd_var 4) pd_int) (pd_ix (pd_var 5) pd_int)) (pw_andD (pt_gt (pd_var 6) pd_int) (pw_and1D (pt_eq G (pd_ix (pd_var 5) pd_int) (pd_add false (pd_ix (pd_var 4) pd_int) pd_int)))))) (sd_one (sd_set 7 G.nd (pd_callN G (O__law_folded.mono (by decide)) (pa_consD (pd_var 4) (pa_consD (pd_var 5) pa_nilD))))) (sd_one (sd_if (PW.pt (pw_andD (pt_eq G (pd_ix (pd_var 4) pd_int) (pd_ix (pd_var 5) pd_int)) (pw_andD (pt_gt (pd_var 6) pd_int) (pw_and1D (pt_eq G (pd_tup (pa_consD (pd_ix (pd_var 4) pd_int) (pa_consD (pd_ix (pd_var 5) pd_int) pa_nilD))) (pd_tup (pa_consD pd_int (pa_consD (pd_sub (pd_var 6) pd_int) pa_nilD)))))))) (sd_one (sd_set 7 G.nd (pd_callN G (O__law_folded.mono (by decide)) (pa_consD (pd_var 5) (pa_consD (pd_var 4) pa_nilD))))) (sd_one (sd_set 7 G.nd (pd_callN G (O__law_shared.mono (by decide)) (pa_consD (pd_var 4) (pa_consD (pd_var 5) pa_nilD)))))))) (sd_one (sd_if (pt_truD (pd_var 7)) (sd_one (sd_ret (pd_tup (pa_consD (pd_tup (pa_consD (pd_ix (pd_var 4) pd_int) (pa_consD (pd_ix (pd_var 4) pd_int) pa_nilD))) (pa_consD (pd_tup (pa_consD (pd_ix (pd_var 5) pd_int) (pa_consD (pd_ix (pd_var 5) pd_int) pa_nilD))) pa_nilD))))) sd_nil))))))) (sd_one (sd_ret pd_non)))))
theorem ok__law_due {P : Program} {w : World} {K : PySem.W.Frag} {mg : Str → Option Value} {base : Heap} {f : Addr} {fd : FuncData} (T : Tz K mg) (D : DefAt K mg "_law_due" s__law_due f fd) (sm : ∃ o, base.get? sysModules = some o) (O__law_edges : Ok P w K mg base 1 "_law_edges" ["_law_rows"] sp__law_edges) (O__law_folded : Ok P w K mg base 2 "_law_folded" ["_law_one", "_law_other"] sp__law_folded) (O__law_shared : Ok P w K mg base 2 "_law_shared" ["_law_one", "_law_other"] sp__law_shared) : Ok P w K mg base 3 "_law_due" ["_law_rows"] sp__law_due := ok_mk D (fn__law_due T D sm O__law_edges O__law_folded O__law_shared) (fun _ _ _ _ _ _ us hl => match us, hl with | [_], _ => rfl)
/-! _law_round -/
abbrev s__law_round : Stmt := topS 39
theorem sc__law_round : FnScope ["_law_box_here", "_law_ways", "_law_middle", "_law_some", "_law_found", "_law_k", "_law_high", "_law_way", "_law_x", "_law_y", "_law_far"] ["_law_box_here"] (defScope s__law_round) := ⟨rfl, rfl, rfl, by decide +kernel, rfl, by decide +kernel, by decide +kernel⟩
def b__law_round : DS := (sSeq (sAsg (dLst false (dCons (dTup (dCons (dC (.int 1)) (dCons (dC (.int 0)) dNil))) (dCons (dTup (dCons (dC (.int 3)) (dCons (dC (.int 1)) dNil))) (dCons (dTup (dCons (dC (.int 2)) (dCons (dC (.int 2)) dNil))) (dCons (dTup (dCons (dC (.int 1)) (dCons (dC (.int 3)) dNil))) (dCons (dTup (dCons (dC (.int 0)) (dCons (dC (.int 1)) dNil))) (dCons (dTup (dCons (dUn fNeg (dC (.int 1))) (dCons (dC (.int 3)) dNil))) (dCons (dTup (dCons (dUn fNeg (dC (.int 2))) (dCons (dC (.int 2)) dNil))) (dCons (dTup (dCons (dUn fNeg (dC (.int 3))) (dCons (dC (.int 1)) dNil))) (dCons (dTup (dCons (dUn fNeg (dC (.int 1))) (dCons (dC (.int 0)) dNil))) (dCons (dTup (dCons (dUn fNeg (dC (.int 3))) (dCons (dUn fNeg (dC (.int 1))) dNil))) (dCons (dTup (dCons (dUn fNeg (dC (.int 2))) (dCons (dUn fNeg (dC (.int 2))) dNil))) (dCons (dTup (dCons (dUn fNeg (dC (.int 1))) (dCons (dUn fNeg (dC (.int 3))) dNil))) dNil))))))))))))) (gN 1)) (sSeq (sAsg (dOp (fAdd false) (dVar 1) (dLst false (dCons (dTup (dCons (dC (.int 0)) (dCons (dUn fNeg (dC (.int 1))) dNil))) (dCons (dTup (dCons (dC (.int 1)) (dCons (dUn fNeg (dC (.int 3))) dNil))) (dCons (dTup (dCons (dC (.int 2)) (dCons (dUn fNeg (dC (.int 2))) dNil))) (dCons (dTup (dCons (dC (.int 3)) (dCons (dUn fNeg (dC (.int 1))) dNil))) dNil)))))) (gN 1)) (sSeq (sAsg (dTup (dCons (dOp fMulI (dCall sp__law_take [] (dCons (dVar 0) (dCons (dC (.int 9)) dNil))) (dC (.int 3))) (dCons (dOp fMulI (dCall sp__law_take [] (dCons (dVar 0) (dCons (dC (.int 9)) dNil))) (dC (.int 3))) dNil))) (gN 2)) (sSeq (sIf (tBl (dOp fEq (dCall sp__law_take [] (dCons (dVar 0) (dCons (dC (.int 2)) dNil))) (dC (.int 0)))) (sSeq (sAsg (dLc false (iEnumD (dCons (dVar 1) dNil)) (.inr [5, 7]) (tOrD (tBl (dOp fEq (dOp fMod (dVar 5) (dC (.int 4))) (dC (.int 0)))) (tBl (dOp fEq (dCall sp__law_take [] (dCons (dVar 0) (dCons (dC (.int 3)) dNil))) (dC (.int 0))))) (dVar 7) [5, 7]) (gN 3)) (sRet (dLc true (iSeq (dLc false (iSeq (dVar 3)) (.inr [8, 9]) tYesD (dTup (dCons (dVar 8) (dCons (dVar 9) (dCons (dOp (fAdd false) (dC (.int 1)) (dCall sp__law_take [] (dCons (dVar 0) (dCons (dC (.int 4)) dNil)))) dNil)))) [8, 9])) (.inr [8, 9, 10]) tYesD (dTup (dCons (dOp (fAdd false) (dOp fIx (dVar 2) (dC (.int 0))) (dOp fMulI (dVar 8) (dVar 10))) (dCons (dOp (fAdd false) (dOp fIx (dVar 2) (dC (.int 1))) (dOp fMulI (dVar 9) (dVar 10))) dNil))) [8, 9, 10]))) sNil) (sSeq (sAsg (dLst false (dCons (dVar 2) (dCons (dTup (dCons (dOp (fAdd false) (dOp fIx (dVar 2) (dC (.int 0))) (dC (.int 8))) (dCons (dOp fIx (dVar 2) (dC (.int 1))) dNil))) dNil))) (gN 4)) (sSeq (sFor (iRange1 (dCons (dOp (fAdd false) (dC (.int 1)) (dCall sp__law_take [] (dCons (dVar 0) (dCons (dC (.int 3)) dNil)))) dNil)) (gN 5) (sSeq (sAsg (dOp (fAdd false) (dC (.int 1)) (dCall sp__law_take [] (dCons (dVar 0) (dCons (dC (.int 5)) dNil)))) (gN 6)) (sAsg (dOp (fAdd true) (dVar 4) (dLst false (dCons (dTup (dCons (dOp fSub (dOp (fAdd false) (dOp fIx (dVar 2) (dC (.int 0))) (dC (.int 8))) (dOp fMulI (dC (.int 2)) (dVar 5))) (dCons (dOp (fAdd false) (dOp fIx (dVar 2) (dC (.int 1))) (dVar 6)) dNil))) (dCons (dTup (dCons (dOp fSub (dOp (fAdd false) (dOp fIx (dVar 2) (dC (.int 0))) (dC (.int 6))) (dOp fMulI (dC (.int 2)) (dVar 5))) (dCons (dOp (fAdd false) (dOp fIx (dVar 2) (dC (.int 1))) (dVar 6)) dNil))) dNil)))) (gN 4)))) (sRet (dVar 4))))))))
def sp__law_round : DSp := spOf 11 1 b__law_round
theorem fn__law_round {P : Program} {w : World} {K : PySem.W.Frag} {mg : Str → Option Value} {base : Heap} {f : Addr} {fd : FuncData} (T : Tz K mg) (D : DefAt K mg "_law_round" s__law_round f fd) (sm : ∃ o, base.get? sysModules = some o) (O__law_take : Ok P w K mg base 1 "_law_take" ["_law_box_here", "_law_many"] sp__law_take) : FnG P w K mg base 2 f fd ["_law_box_here"] sp__law_round :=
  by have h := Fn_ok (P := P) (w := w) (K := K) (mg := mg) (base := base) (f := f) (fd := fd) (k := 1) (b := b__law_round) D.F sc__law_round sm (fun cdv A outer s H E G => (sd_cons (sd_set 1 G.nd (pd_lst false (pa_consD (pd_tup (pa_consD pd_int (pa_consD pd_int pa_nilD))) (pa_consD (pd_tup (pa_consD pd_int (pa_consD pd_int pa_nilD))) (pa_consD (pd_tup (pa_consD pd_int (pa_consD pd_int pa_nilD))) (pa_consD (pd_tup (pa_consD pd_int (pa_consD pd_int pa_nilD))) (pa_consD (pd_tup (pa_consD pd_int (pa_consD pd_int pa_nilD))) (pa_consD (pd_tup (pa_consD (pd_neg pd_int) (pa_consD pd_int pa_nilD))) (pa_consD (pd_tup (pa_consD (pd_neg pd_int) (pa_consD pd_int pa_nilD))) (pa_consD (pd_tup (pa_consD (pd_neg pd_int) (pa_consD pd_int pa_nilD))) (pa_consD (pd_tup (pa_consD (pd_neg pd_int) (pa_consD pd_int pa_nilD))) (pa_consD (pd_tup (pa_consD (pd_neg pd_int) (pa_consD (pd_neg pd_int) pa_nilD))) (pa_consD (pd_tup (pa_consD (pd_neg pd_int) (pa_consD (pd_neg pd_int) pa_nilD))) (pa_consD (pd_tup (pa_consD (pd_neg pd_int) (pa_consD (pd_neg pd_int) pa_nilD))) pa_nilD)))))))))))))) (sd_cons (sd_set 1 G.nd (pd_add false (pd_var 1) (pd_lst false (pa_consD (pd_tup (pa_consD pd_int (pa_consD (pd_neg pd_int) pa_nilD))) (pa_consD (pd_tup (pa_consD pd_int (pa_consD (pd_neg pd_int) pa_nilD))) (pa_consD (pd_tup (pa_consD pd_int (pa_consD (pd_neg pd_int) pa_nilD))) (pa_consD (pd_tup (pa_consD pd_int (pa_consD (pd_neg pd_int) pa_nilD))) pa_nilD))))))) (sd_cons (sd_set 2 G.nd (pd_tup (pa_consD (pd_mulI (pd_callN G (O__law_take.mono (by decide)) (pa_consD (pd_var 0) (pa_consD pd_int pa_nilD))) pd_int) (pa_consD (pd_mulI (pd_callN G (O__law_take.mono (by decide)) (pa_consD (pd_var 0) (pa_consD pd_int pa_nilD))) pd_int) pa_nilD)))) (sd_cons (sd_if (pt_eq G (pd_callN G (O__law_take.mono (by decide)) (pa_consD (pd_var 0) (pa_consD pd_int pa_nilD))) pd_int) (sd_cons (sd_setLc 3 false [("_law_k", 5), ("_law_way", 7)] (.inr [5, 7]) G (pi_enumD T.z_enumerate (pa_consD (pd_var 1) pa_nilD)) (fun _ _ _ _ _ => pg_tup G.calm (pgs_cons (pg_name G.nd rfl (by first | exact Or.inl rfl | exact Or.inr rfl)) (pgs_cons (pg_name G.nd rfl (by first | exact Or.inl rfl | exact Or.inr rfl)) pgs_nil))) (fun _ _ _ _ _ => pts_oneD (PW.pt (pw_orD (pt_eq G.blk (pd_mod (pd_var 5) pd_int) pd_int) (pw_or1D (pt_eq G.blk (pd_callN G.blk (O__law_take.mono (by decide)) (pa_consD (pd_var 0) (pa_consD pd_int pa_nilD))) pd_int))))) (fun _ _ _ _ _ => (pd_var 7))) (sd_one (sd_ret (pd_lc true [("_law_x", 8), ("_law_y", 9), ("_law_far", 10)] (.inr [8, 9, 10]) G (pi_seqD (pd_lc false [("_law_x", 8), ("_law_y", 9)] (.inr [8, 9]) G (pi_seqD (pd_var 3)) (fun _ _ _ _ _ => pg_tup G.calm (pgs_cons (pg_name G.nd rfl (by first | exact Or.inl rfl | exact Or.inr rfl)) (pgs_cons (pg_name G.nd rfl (by first | exact Or.inl rfl | exact Or.inr rfl)) pgs_nil))) (fun _ _ _ _ _ => pts_nilD) (fun _ _ _ _ _ => (pd_tup (pa_consD (pd_var 8) (pa_consD (pd_var 9) (pa_consD (pd_add false pd_int (pd_callN G.blk (O__law_take.mono (by decide)) (pa_consD (pd_var 0) (pa_consD pd_int pa_nilD)))) pa_nilD))))))) (fun _ _ _ _ _ => pg_tup G.calm (pgs_cons (pg_name G.nd rfl (by first | exact Or.inl rfl | exact Or.inr rfl)) (pgs_cons (pg_name G.nd rfl (by first | exact Or.inl rfl | exact Or.inr rfl)) (pgs_cons (pg_name G.nd rfl (by first | exact Or.inl rfl | exact Or.inr rfl)) pgs_nil)))) (fun _ _ _ _ _ => pts_nilD) (fun _ _ _ _ _ => (pd_tup (pa_consD (pd_add false (pd_ix (pd_var 2) pd_int) (pd_mulI (pd_var 8) (pd_var 10))) (pa_consD (pd_add false (pd_ix (pd_var 2) pd_int) (pd_mulI (pd_var 9) (pd_var 10))) pa_nilD)))))))) sd_nil) (sd_cons (sd_set 4 G.nd (pd_lst false (pa_consD (pd_var 2) (pa_consD (pd_tup (pa_consD (pd_add false (pd_ix (pd_var 2) pd_int) pd_int) (pa_consD (pd_ix (pd_var 2) pd_int) pa_nilD))) pa_nilD)))) (sd_cons (sd_for G (pi_range1D T.z_range (pa_consD (pd_add false pd_int (pd_callN G (O__law_take.mono (by decide)) (pa_consD (pd_var 0) (pa_consD pd_int pa_nilD)))) pa_nilD)) (pg_nameD (i := 5) G.nd) (sd_cons (sd_set 6 G.nd (pd_add false pd_int (pd_callN G (O__law_take.mono (by decide)) (pa_consD (pd_var 0) (pa_consD pd_int pa_nilD))))) (sd_one (sd_set 4 G.nd (pd_add true (pd_var 4) (pd_lst false (pa_consD (pd_tup (pa_consD (pd_sub (pd_add false (pd_ix (pd_var 2) pd_int) pd_int) (pd_mulI pd_int (pd_var 5))) (pa_consD (pd_add false (pd_ix (pd_var 2) pd_int) (pd_var 6)) pa_nilD))) (pa_consD (pd_tup (pa_consD (pd_sub (pd_add false (pd_ix (pd_var 2) pd_int) pd_int) (pd_mulI pd_int (pd_var 5))) (pa_consD (pd_add false (pd_ix (pd_var 2) pd_int) (pd_var 6)) pa_nilD))) pa_nilD)))))))) (sd_one (sd_ret (pd_var 4)))))))))); exact h
theorem ok__law_round {P : Program} {w : World} {K : PySem.W.Frag} {mg : Str → Option Value} {base : Heap} {f : Addr} {fd : FuncData} (T : Tz K mg) (D : DefAt K mg "_law_round" s__law_round f fd) (sm : ∃ o, base.get? sysModules = some o) (O__law_take : Ok P w K mg base 1 "_law_take" ["_law_box_here", "_law_many"] sp__law_take) : Ok P w K mg base 2 "_law_round" ["_law_box_here"] sp__law_round := ok_mk D (fn__law_round T D sm O__law_take) (fun _ _ _ _ _ _ us hl => match us, hl with | [_], _ => rfl)
/-! _law_comb -/
abbrev s__law_comb : Stmt := topS 40
theorem sc__law_comb : FnScope ["_law_box_here", "_law_found", "_law_k", "_law_high"] ["_law_box_here"] (defScope s__law_comb) := ⟨rfl, rfl, rfl, by decide +kernel, rfl, by decide +kernel, by decide +kernel⟩
def b__law_comb : DS := (sSeq (sAsg (dLst false (dCons (dTup (dCons (dC (.int 0)) (dCons (dC (.int 0)) dNil))) (dCons (dTup (dCons (dC (.int 98)) (dCons (dC (.int 0)) dNil))) dNil))) (gN 1)) (sSeq (sFor (iRange1 (dCons (dC (.int 49)) dNil)) (gN 2) (sSeq (sAsg (dOp (fAdd false) (dC (.int 1)) (dCall sp__law_take [] (dCons (dVar 0) (dCons (dC (.int 9)) dNil)))) (gN 3)) (sAsg (dOp (fAdd true) (dVar 1) (dLst false (dCons (dTup (dCons (dOp fSub (dC (.int 98)) (dOp fMulI (dC (.int 2)) (dVar 2))) (dCons (dVar 3) dNil))) (dCons (dTup (dCons (dOp fSub (dC (.int 96)) (dOp fMulI (dC (.int 2)) (dVar 2))) (dCons (dVar 3) dNil))) dNil)))) (gN 1)))) (sSeq (sIf (tBl (dOp fEq (dCall sp__law_take [] (dCons (dVar 0) (dCons (dC (.int 2)) dNil))) (dC (.int 0)))) (sAsg (dTup (dCons (dCall sp__law_take [] (dCons (dVar 0) (dCons (dC (.int 98)) dNil))) (dCons (dOp fSub (dC (.int 0)) (dCall sp__law_take [] (dCons (dVar 0) (dCons (dC (.int 2)) dNil)))) dNil))) (gSubD (dVar 1) (dOp fSub (dC (.int 99)) (dCall sp__law_take [] (dCons (dVar 0) (dCons (dC (.int 90)) dNil)))) fSet)) sNil) (sRet (dVar 1)))))
def sp__law_comb : DSp := spOf 4 1 b__law_comb
theorem fn__law_comb {P : Program} {w : World} {K : PySem.W.Frag} {mg : Str → Option Value} {base : Heap} {f : Addr} {fd : FuncData} (T : Tz K mg) (D : DefAt K mg "_law_comb" s__law_comb f fd) (sm : ∃ o, base.get? sysModules = some o) (O__law_take : Ok P w K mg base 1 "_law_take" ["_law_box_here", "_law_many"] sp__law_take) : FnG P w K mg base 2 f fd ["_law_box_here"] sp__law_comb :=
  Fn_ok (k := 1) (b := b__law_comb) D.F sc__law_comb sm fun cdv A outer s H E G => (sd_cons (sd_set 1 G.nd (pd_lst false (pa_consD (pd_tup (pa_consD pd_int (pa_consD pd_int pa_nilD))) (pa_consD (pd_tup (pa_consD pd_int (pa_consD pd_int pa_nilD))) pa_nilD)))) (sd_cons (sd_for G (pi_range1D T.z_range (pa_consD pd_int pa_nilD)) (pg_nameD (i := 2) G.nd) (sd_cons (sd_set 3 G.nd (pd_add false pd_int (pd_callN G (O__law_take.mono (by decide)) (pa_consD (pd_var 0) (pa_consD pd_int pa_nilD))))) (sd_one (sd_set 1 G.nd (pd_add true (pd_var 1) (pd_lst false (pa_consD (pd_tup (pa_consD (pd_sub pd_int (pd_mulI pd_int (pd_var 2))) (pa_consD (pd_var 3) pa_nilD))) (pa_consD (pd_tup (pa_consD (pd_sub pd_int (pd_mulI pd_int (pd_var 2))) (pa_consD (pd_var 3) pa_nilD))) pa_nilD)))))))) (sd_cons (sd_if (pt_eq G (pd_callN G (O__law_take.mono (by decide)) (pa_consD (pd_var 0) (pa_consD pd_int pa_nilD))) pd_int) (sd_one (sd_asg (pd_tup (pa_consD (pd_callN G (O__law_take.mono (by decide)) (pa_consD (pd_var 0) (pa_consD pd_int pa_nilD))) (pa_consD (pd_sub pd_int (pd_callN G (O__law_take.mono (by decide)) (pa_consD (pd_var 0) (pa_consD pd_int pa_nilD)))) pa_nilD))) (pg_subD (pd_var 1) (pd_sub pd_int (pd_callN G (O__law_take.mono (by decide)) (pa_consD (pd_var 0) (pa_consD pd_int pa_nilD))))))) sd_nil) (sd_one (sd_ret (pd_var 1))))))
theorem ok__law_comb {P : Program} {w : World} {K : PySem.W.Frag} {mg : Str → Option Value} {base : Heap} {f : Addr} {fd : FuncData} (T : Tz K mg) (D : DefAt K mg "_law_comb" s__law_comb f fd) (sm : ∃ o, base.get? sysModules = some o) (O__law_take : Ok P w K mg base 1 "_law_take" ["_law_box_here", "_law_many"] sp__law_take) : Ok P w K mg base 2 "_law_comb" ["_law_box_here"] sp__law_comb := ok_mk D (fn__law_comb T D sm O__law_take) (fun _ _ _ _ _ _ us hl => match us, hl with | [_], _ => rfl)
/-! _law_scene -/
abbrev s__law_scene : Stmt := topS 41
theorem sc__law_scene : FnScope ["_law_box_here", "_law_rows", "_law_turn", "_law_pairs", "_law_way", "_law_at", "_law_x", "_law_y", "_law_after", "_law_new", "_law_k"] ["_law_box_here"] (defScope s__law_scene) := ⟨rfl, rfl, rfl, by decide +kernel, rfl, by decide +kernel, by decide +kernel⟩
def b__law_scene : DS := (sSeq (sAsg (dLst true dNil) (gN 1)) (sSeq (sFor (iRange1 (dCons (dOp fIx (dLst false (dCons (dC (.int 1)) (dCons (dC (.int 2)) (dCons (dOp (fAdd false) (dC (.int 1)) (dCall sp__law_take [] (dCons (dVar 0) (dCons (dC (.int 4)) dNil)))) dNil)))) (dCall sp__law_take [] (dCons (dVar 0) (dCons (dC (.int 3)) dNil)))) dNil)) (gN 2) (sSeq (sAsg (dCall sp__law_round [] (dCons (dVar 0) dNil)) (gN 3)) (sSeq (sIf (tBl (dOp fEq (dCall sp__law_take [] (dCons (dVar 0) (dCons (dC (.int 5)) dNil))) (dC (.int 0)))) (sAsg (dLc true (iRange1 (dCons (dOp (fAdd false) (dC (.int 1)) (dCall sp__law_take [] (dCons (dVar 0) (dCons (dC (.int 8)) dNil)))) dNil)) (.inl 10) tYesD (dTup (dCons (dCall sp__law_take [] (dCons (dVar 0) (dCons (dC (.int 7)) dNil))) (dCons (dCall sp__law_take [] (dCons (dVar 0) (dCons (dC (.int 7)) dNil))) dNil))) [10]) (gN 3)) sNil) (sSeq (sAsg (dCall sp__law_take [] (dCons (dVar 0) (dCons (dC (.int 9)) dNil))) (gN 4)) (sSeq (sAsg (dCall sp__law_take [] (dCons (dVar 0) (dCons (dB fLen (dCons (dVar 3) dNil)) dNil))) (gN 5)) (sSeq (sAsg (dOp fIx (dVar 3) (dVar 5)) (gTupD 2 (gConsD (gN 6) (gConsD (gN 7) gNilD)))) (sSeq (sAsg (dOp fIx (dVar 3) (dOp fMod (dOp (fAdd false) (dVar 5) (dC (.int 1))) (dB fLen (dCons (dVar 3) dNil)))) (gN 8)) (sSeq (sIf (tBl (dOp fLtS (dVar 4) (dC (.int 3)))) (sSeq (sAsg (dOp fIx (dLst false (dCons (dTup (dCons (dVar 6) (dCons (dVar 7) dNil))) (dCons (dTup (dCons (dOp fSub (dOp fMulI (dC (.int 2)) (dVar 6)) (dOp fIx (dVar 8) (dC (.int 0)))) (dCons (dOp fSub (dOp fMulI (dC (.int 2)) (dVar 7)) (dOp fIx (dVar 8) (dC (.int 1)))) dNil))) (dCons (dOp fIx (dVar 3) (dOp fMod (dOp fSub (dVar 5) (dC (.int 2))) (dB fLen (dCons (dVar 3) dNil)))) dNil)))) (dVar 4)) (gN 9)) (sAsg (dOp (fAdd false) (dOp (fAdd false) (dSl false (dVar 3) dNo (dPart (dOp (fAdd false) (dVar 5) (dC (.int 1))))) (dLst false (dCons (dVar 9) dNil))) (dSl false (dVar 3) (dPart (dOp (fAdd false) (dVar 5) (dC (.int 1)))) dNo)) (gN 3))) sNil) (sSeq (sIf (tBl (dOp fEq (dVar 4) (dC (.int 3)))) (sAsg (dTup (dCons (dOp fIx (dVar 3) (dOp fSub (dVar 5) (dC (.int 1)))) (dCons (dOp fIx (dVar 3) (dVar 5)) dNil))) (gTupD 2 (gConsD (gSubD (dVar 3) (dVar 5) fSet) (gConsD (gSubD (dVar 3) (dOp fSub (dVar 5) (dC (.int 1))) fSet) gNilD)))) sNil) (sSeq (sIf (tBl (dOp fEq (dVar 4) (dC (.int 4)))) (sAsg (dRev false (dVar 3)) (gN 3)) sNil) (sExp (dBM "list" fAppend (dVar 1) (dCons (dLc false (iSeq (dVar 3)) (.inr [6, 7]) tYesD (dTup (dCons (dOp fMulI (dC (.int 2)) (dVar 6)) (dCons (dOp fMulI (dC (.int 2)) (dVar 7)) dNil))) [6, 7]) dNil))))))))))))) (sRet (dVar 1))))
def sp__law_scene : DSp := spOf 11 1 b__law_scene
theorem fn__law_scene {P : Program} {w : World} {K : PySem.W.Frag} {mg : Str → Option Value} {base : Heap} {f : Addr} {fd : FuncData} (T : Tz K mg) (D : DefAt K mg "_law_scene" s__law_scene f fd) (sm : ∃ o, base.get? sysModules = some o) (O__law_round : Ok P w K mg base 2 "_law_round" ["_law_box_here"] sp__law_round) (O__law_take : Ok P w K mg base 1 "_law_take" ["_law_box_here", "_law_many"] sp__law_take) : FnG P w K mg base 3 f fd ["_law_box_here"] sp__law_scene :=
  Fn_ok (k := 2) (b := b__law_scene) D.F sc__law_scene sm fun cdv A outer s H E G => (sd_cons (sd_set 1 G.nd (pd_lst true pa_nilD)) (sd_cons (sd_for G (pi_range1D T.z_range (pa_consD (pd_ix (pd_lst false (pa_consD pd_int (pa_consD pd_int (pa_consD (pd_add false pd_int (pd_callN G (O__law_take.mono (by decide)) (pa_consD (pd_var 0) (pa_consD pd_int pa_nilD)))) pa_nilD)))) (pd_callN G (O__law_take.mono (by decide)) (pa_consD (pd_var 0) (pa_consD pd_int pa_nilD)))) pa_nilD)) (pg_nameD (i := 2) G.nd) (sd_cons (sd_set 3 G.nd (pd_callN G (O__law_round.mono (by decide)) (pa_consD (pd_var 0) pa_nilD))) (sd_cons (sd_if (pt_eq G (pd_callN G (O__law_take.mono (by decide)) (pa_consD (pd_var 0) (pa_consD pd_int pa_nilD))) pd_int) (sd_one (sd_setLc 3 true [("_law_k", 10)] (.inl 10) G (pi_range1D T.z_range (pa_consD (pd_add false pd_int (pd_callN G (O__law_take.mono (by decide)) (pa_consD (pd_var 0) (pa_consD pd_int pa_nilD)))) pa_nilD)) (fun _ _ _ _ _ => pg_name G.nd rfl (by first | exact Or.inl rfl | exact Or.inr rfl)) (fun _ _ _ _ _ => pts_nilD) (fun _ _ _ _ _ => (pd_tup (pa_consD (pd_callN G.blk (O__law_take.mono (by decide)) (pa_consD (pd_var 0) (pa_consD pd_int pa_nilD))) (pa_consD (pd_callN G.blk (O__law_take.mono (by decide)) (pa_consD (pd_var 0) (pa_consD pd_int pa_nilD))) pa_nilD)))))) sd_nil) (sd_cons (sd_set 4 G.nd (pd_callN G (O__law_take.mono (by decide)) (pa_consD (pd_var 0) (pa_consD pd_int pa_nilD)))) (sd_cons (sd_set 5 G.nd (pd_callN G (O__law_take.mono (by decide)) (pa_consD (pd_var 0) (pa_consD (pd_callB call_len sim_len T.z_len (pa_consD (pd_var 3) pa_nilD)) pa_nilD)))) (sd_cons (sd_asg (pd_ix (pd_var 3) (pd_var 5)) (pg_tupD G.calm (pgs_consD (pg_nameD (i := 6) G.nd) (pgs_consD (pg_nameD (i := 7) G.nd) pgs_nilD)))) (sd_cons (sd_set 8 G.nd (pd_ix (pd_var 3) (pd_mod (pd_add false (pd_var 5) pd_int) (pd_callB call_len sim_len T.z_len (pa_consD (pd_var 3) pa_nilD))))) (sd_cons (sd_if (pt_lt (pd_var 4) pd_int) (sd_cons (sd_set 9 G.nd (pd_ix (pd_lst false (pa_consD (pd_tup (pa_consD (pd_var 6) (pa_consD (pd_var 7) pa_nilD))) (pa_consD (pd_tup (pa_consD (pd_sub (pd_mulI pd_int (pd_var 6)) (pd_ix (pd_var 8) pd_int)) (pa_consD (pd_sub (pd_mulI pd_int (pd_var 7)) (pd_ix (pd_var 8) pd_int)) pa_nilD))) (pa_consD (pd_ix (pd_var 3) (pd_mod (pd_sub (pd_var 5) pd_int) (pd_callB call_len sim_len T.z_len (pa_consD (pd_var 3) pa_nilD)))) pa_nilD)))) (pd_var 4))) (sd_one (sd_set 3 G.nd (pd_add false (pd_add false (pd_sl false (pd_var 3) po_noD (po_partD (pd_add false (pd_var 5) pd_int))) (pd_lst false (pa_consD (pd_var 9) pa_nilD))) (pd_sl false (pd_var 3) (po_partD (pd_add false (pd_var 5) pd_int)) po_noD))))) sd_nil) (sd_cons (sd_if (pt_eq G (pd_var 4) pd_int) (sd_one (sd_asg (pd_tup (pa_consD (pd_ix (pd_var 3) (pd_sub (pd_var 5) pd_int)) (pa_consD (pd_ix (pd_var 3) (pd_var 5)) pa_nilD))) (pg_tupD G.calm (pgs_consD (pg_subD (pd_var 3) (pd_var 5)) (pgs_consD (pg_subD (pd_var 3) (pd_sub (pd_var 5) pd_int)) pgs_nilD))))) sd_nil) (sd_cons (sd_if (pt_eq G (pd_var 4) pd_int) (sd_one (sd_set 3 G.nd (pd_rev false (pd_var 3)))) sd_nil) (sd_one (sd_exp (pd_append (pd_var 1) (pa_consD (pd_lc false [("_law_x", 6), ("_law_y", 7)] (.inr [6, 7]) G (pi_seqD (pd_var 3)) (fun _ _ _ _ _ => pg_tup G.calm (pgs_cons (pg_name G.nd rfl (by first | exact Or.inl rfl | exact Or.inr rfl)) (pgs_cons (pg_name G.nd rfl (by first | exact Or.inl rfl | exact Or.inr rfl)) pgs_nil))) (fun _ _ _ _ _ => pts_nilD) (fun _ _ _ _ _ => (pd_tup (pa_consD (pd_mulI pd_int (pd_var 6)) (pa_consD (pd_mulI pd_int (pd_var 7)) pa_nilD))))) pa_nilD)))))))))))))) (sd_one (sd_ret (pd_var 1)))))
theorem ok__law_scene {P : Program} {w : World} {K : PySem.W.Frag} {mg : Str → Option Value} {base : Heap} {f : Addr} {fd : FuncData} (T : Tz K mg) (D : DefAt K mg "_law_scene" s__law_scene f fd) (sm : ∃ o, base.get? sysModules = some o) (O__law_round : Ok P w K mg base 2 "_law_round" ["_law_box_here"] sp__law_round) (O__law_take : Ok P w K mg base 1 "_law_take" ["_law_box_here", "_law_many"] sp__law_take) : Ok P w K mg base 3 "_law_scene" ["_law_box_here"] sp__law_scene := ok_mk D (fn__law_scene T D sm O__law_round O__law_take) (fun _ _ _ _ _ _ us hl => match us, hl with | [_], _ => rfl)
/-! law -/
abbrev s_law : Stmt := topS 42
theorem sc_law : FnScope ["_law_script", "_law_ahead", "_law_k", "_law_box_here", "_law_base", "_law_rows", "_law_handed", "_law_due_here", "_law_stood", "_law_by", "_law_grow", "_law_others", "_law_pairs", "_law_x", "_law_y"] ["_law_script"] (defScope s_law) := ⟨rfl, rfl, rfl, by decide +kernel, rfl, by decide +kernel, by decide +kernel⟩
def b_law : DS := (sSeq (sAsg (dLst true dNil) (gN 1)) (sSeq (sFor (iRange1 (dCons (dB fMax2 (dCons (dC (.int 2)) (dCons (dB fMin2 (dCons (dC (.int 6)) (dCons (dB fLen (dCons (dVar 0) dNil)) dNil))) dNil))) dNil)) (gN 2) (sSeq (sAsg (dCall sp__law_box [] (dCons (dCall sp__law_cell [] (dCons (dVar 0) (dCons (dVar 2) dNil))) dNil)) (gN 3)) (sSeq (sAsg (dOp fIx (dLst false (dCons (dC (.int 1)) (dCons (dC (.int 2)) (dCons (dC (.int 3)) (dCons (dC (.int 64)) (dCons (dOp (fAdd false) (dC (.int 1)) (dCall sp__law_take [] (dCons (dVar 3) (dCons (dC (.int 40)) dNil)))) dNil)))))) (dCall sp__law_take [] (dCons (dVar 3) (dCons (dC (.int 5)) dNil)))) (gN 4)) (sSeq (sAsg (dCall sp__law_scene [] (dCons (dVar 3) dNil)) (gN 5)) (sSeq (sIf (tAndD (tBl (dOp fEq (dVar 2) (dC (.int 0)))) (tBl (dOp fEq (dCall sp__law_take [] (dCons (dVar 3) (dCons (dC (.int 12)) dNil))) (dC (.int 0))))) (sSeq (sAsg (dLst false (dCons (dCall sp__law_comb [] (dCons (dVar 3) dNil)) dNil)) (gN 5)) (sIf (tBl (dOp fEq (dCall sp__law_take [] (dCons (dVar 3) (dCons (dC (.int 2)) dNil))) (dC (.int 0)))) (sAsg (dOp (fAdd false) (dVar 5) (dLst false (dCons (dLc false (iSeq (dCall sp__law_comb [] (dCons (dVar 3) dNil))) (.inr [13, 14]) tYesD (dTup (dCons (dOp (fAdd false) (dVar 13) (dC (.int 300))) (dCons (dVar 14) dNil))) [13, 14]) (dCons (dLst false (dCons (dTup (dCons (dC (.int 90)) (dCons (dUn fNeg (dC (.int 4))) dNil))) (dCons (dTup (dCons (dC (.int 130)) (dCons (dUn fNeg (dC (.int 4))) dNil))) (dCons (dTup (dCons (dC (.int 130)) (dCons (dC (.int 30)) dNil))) (dCons (dTup (dCons (dC (.int 90)) (dCons (dC (.int 30)) dNil))) dNil))))) dNil)))) (gN 5)) sNil)) sNil) (sSeq (sExp (dBM "list" fAppend (dVar 1) (dCons (dTup (dCons (dLc false (iSeq (dVar 5)) (.inl 12) tYesD (dCall sp__law_told [] (dCons (dVar 12) (dCons (dVar 4) dNil))) [12]) (dCons (dCall sp__law_due [] (dCons (dVar 5) dNil)) dNil))) dNil))) (sSeq (sFor (iSeq (dOp (fAdd false) (dSl false (dVar 1) (dPart (dUn fNeg (dC (.int 2)))) dNo) (dSl false (dVar 1) (dPart (dUn fNeg (dC (.int 2)))) (dPart (dUn fNeg (dC (.int 1))))))) (gTupD 2 (gConsD (gN 6) (gConsD (gN 7) gNilD))) (sSeq (sAsg (dB fRepr (dCons (dVar 6) dNil)) (gN 8)) (sIf (tOrD (tBl (dOp fNe (dB fRepr (dCons (dCall sp_first_crossing [] (dCons (dVar 6) dNil)) dNil)) (dB fRepr (dCons (dVar 7) dNil)))) (tBl (dOp fNe (dB fRepr (dCons (dVar 6) dNil)) (dVar 8)))) (sRet (dC (.bl false))) sNil))) (sSeq (sAsg (dTup (dCons (dTup (dCons (dOp fSub (dCall sp__law_take [] (dCons (dVar 3) (dCons (dC (.int 41)) dNil))) (dC (.int 20))) (dCons (dOp fSub (dCall sp__law_take [] (dCons (dVar 3) (dCons (dC (.int 41)) dNil))) (dC (.int 20))) dNil))) (dCons (dOp (fAdd false) (dC (.int 1)) (dCall sp__law_take [] (dCons (dVar 3) (dCons (dC (.int 9)) dNil)))) dNil))) (gTupD 2 (gConsD (gN 9) (gConsD (gN 10) gNilD)))) (sSeq (sAsg (dLc false (iSeq (dVar 5)) (.inl 12) tYesD (dLc false (iSeq (dVar 12)) (.inr [13, 14]) tYesD (dTup (dCons (dOp fMulI (dOp (fAdd false) (dVar 13) (dOp fIx (dVar 9) (dC (.int 0)))) (dVar 10)) (dCons (dOp fMulI (dOp (fAdd false) (dVar 14) (dOp fIx (dVar 9) (dC (.int 1)))) (dVar 10)) dNil))) [13, 14]) [12]) (gN 11)) (sIf (tBl (dOp fNe (dB fRepr (dCons (dCallC sp_first_crossing 0 1 [0] [] dNil (dCons (dTupOf (dLc false (iSeq (dVar 11)) (.inl 12) tYesD (dTupOf (dCall sp__law_told [] (dCons (dVar 12) (dCons (dVar 4) dNil)))) [12])) dNil)) dNil)) (dB fRepr (dCons (dOp fIx (dOp fIx (dVar 1) (dUn fNeg (dC (.int 1)))) (dC (.int 1))) dNil)))) (sRet (dC (.bl false))) sNil)))))))))) (sRet (dC (.bl true)))))
def sp_law : DSp := spOf 15 1 b_law
theorem fn_law {P : Program} {w : World} {K : PySem.W.Frag} {mg : Str → Option Value} {base : Heap} {f : Addr} {fd : FuncData} (T : Tz K mg) (D : DefAt K mg "law" s_law f fd) (sm : ∃ o, base.get? sysModules = some o) (C_first_crossing_0_parts : OkC P w K mg base 5 "first_crossing" 0 ["parts"] [0] [] sp_first_crossing) (O__law_box : Ok P w K mg base 1 "_law_box" ["_law_cell_here"] sp__law_box) (O__law_cell : Ok P w K mg base 1 "_law_cell" ["_law_script", "_law_k"] sp__law_cell) (O__law_comb : Ok P w K mg base 2 "_law_comb" ["_law_box_here"] sp__law_comb) (O__law_due : Ok P w K mg base 3 "_law_due" ["_law_rows"] sp__law_due) (O__law_scene : Ok P w K mg base 3 "_law_scene" ["_law_box_here"] sp__law_scene) (O__law_take : Ok P w K mg base 1 "_law_take" ["_law_box_here", "_law_many"] sp__law_take) (O__law_told : Ok P w K mg base 2 "_law_told" ["_law_pairs", "_law_base"] sp__law_told) (O_first_crossing : Ok P w K mg base 5 "first_crossing" ["parts"] sp_first_crossing) : FnG P w K mg base 6 f fd ["_law_script"] sp_law :=
  Fn_ok (k := 5) (b := b_law) D.F sc_law sm fun cdv A outer s H E G => (sd_cons (sd_set 1 G.nd (pd_lst true pa_nilD)) (sd_cons (sd_for G (pi_range1D T.z_range (pa_consD (pd_callB (call_max2 G.calm) sim_max2 T.z_max (pa_consD pd_int (pa_consD (pd_callB (call_min2 G.calm) sim_min2 T.z_min (pa_consD pd_int (pa_consD (pd_callB call_len sim_len T.z_len (pa_consD (pd_var 0) pa_nilD)) pa_nilD))) pa_nilD))) pa_nilD)) (pg_nameD (i := 2) G.nd) (sd_cons (sd_set 3 G.nd (pd_callN G (O__law_box.mono (by decide)) (pa_consD (pd_callN G (O__law_cell.mono (by decide)) (pa_consD (pd_var 0) (pa_consD (pd_var 2) pa_nilD))) pa_nilD))) (sd_cons (sd_set 4 G.nd (pd_ix (pd_lst false (pa_consD pd_int (pa_consD pd_int (pa_consD pd_int (pa_consD pd_int (pa_consD (pd_add false pd_int (pd_callN G (O__law_take.mono (by decide)) (pa_consD (pd_var 3) (pa_consD pd_int pa_nilD)))) pa_nilD)))))) (pd_callN G (O__law_take.mono (by decide)) (pa_consD (pd_var 3) (pa_consD pd_int pa_nilD))))) (sd_cons (sd_set 5 G.nd (pd_callN G (O__law_scene.mono (by decide)) (pa_consD (pd_var 3) pa_nilD))) (sd_cons (sd_if (PW.pt (pw_andD (pt_eq G (pd_var 2) pd_int) (pw_and1D (pt_eq G (pd_callN G (O__law_take.mono (by decide)) (pa_consD (pd_var 3) (pa_consD pd_int pa_nilD))) pd_int)))) (sd_cons (sd_set 5 G.nd (pd_lst false (pa_consD (pd_callN G (O__law_comb.mono (by decide)) (pa_consD (pd_var 3) pa_nilD)) pa_nilD))) (sd_one (sd_if (pt_eq G (pd_callN G (O__law_take.mono (by decide)) (pa_consD (pd_var 3) (pa_consD pd_int pa_nilD))) pd_int) (sd_one (sd_set 5 G.nd (pd_add false (pd_var 5) (pd_lst false (pa_consD (pd_lc false [("_law_x", 13), ("_law_y", 14)] (.inr [13, 14]) G (pi_seqD (pd_callN G (O__law_comb.mono (by decide)) (pa_consD (pd_var 3) pa_nilD))) (fun _ _ _ _ _ => pg_tup G.calm (pgs_cons (pg_name G.nd rfl (by first | exact Or.inl rfl | exact Or.inr rfl)) (pgs_cons (pg_name G.nd rfl (by first | exact Or.inl rfl | exact Or.inr rfl)) pgs_nil))) (fun _ _ _ _ _ => pts_nilD) (fun _ _ _ _ _ => (pd_tup (pa_consD (pd_add false (pd_var 13) pd_int) (pa_consD (pd_var 14) pa_nilD))))) (pa_consD (pd_lst false (pa_consD (pd_tup (pa_consD pd_int (pa_consD (pd_neg pd_int) pa_nilD))) (pa_consD (pd_tup (pa_consD pd_int (pa_consD (pd_neg pd_int) pa_nilD))) (pa_consD (pd_tup (pa_consD pd_int (pa_consD pd_int pa_nilD))) (pa_consD (pd_tup (pa_consD pd_int (pa_consD pd_int pa_nilD))) pa_nilD))))) pa_nilD)))))) sd_nil))) sd_nil) (sd_cons (sd_exp (pd_append (pd_var 1) (pa_consD (pd_tup (pa_consD (pd_lc false [("_law_pairs", 12)] (.inl 12) G (pi_seqD (pd_var 5)) (fun _ _ _ _ _ => pg_name G.nd rfl (by first | exact Or.inl rfl | exact Or.inr rfl)) (fun _ _ _ _ _ => pts_nilD) (fun _ _ _ _ _ => (pd_callN G.blk (O__law_told.mono (by decide)) (pa_consD (pd_var 12) (pa_consD (pd_var 4) pa_nilD))))) (pa_consD (pd_callN G (O__law_due.mono (by decide)) (pa_consD (pd_var 5) pa_nilD)) pa_nilD))) pa_nilD))) (sd_cons (sd_for G (pi_seqD (pd_add false (pd_sl false (pd_var 1) (po_partD (pd_neg pd_int)) po_noD) (pd_sl false (pd_var 1) (po_partD (pd_neg pd_int)) (po_partD (pd_neg pd_int))))) (pg_tupD G.calm (pgs_consD (pg_nameD (i := 6) G.nd) (pgs_consD (pg_nameD (i := 7) G.nd) pgs_nilD))) (sd_cons (sd_set 8 G.nd (pd_callB (call_reprD G) sim_repr T.z_repr (pa_consD (pd_var 6) pa_nilD))) (sd_one (sd_if (PW.pt (pw_orD (pt_ne G (pd_callB (call_reprD G) sim_repr T.z_repr (pa_consD (pd_callN G (O_first_crossing.mono (by decide)) (pa_consD (pd_var 6) pa_nilD)) pa_nilD)) (pd_callB (call_reprD G) sim_repr T.z_repr (pa_consD (pd_var 7) pa_nilD))) (pw_or1D (pt_ne G (pd_callB (call_reprD G) sim_repr T.z_repr (pa_consD (pd_var 6) pa_nilD)) (pd_var 8))))) (sd_one (sd_ret pd_bl)) sd_nil)))) (sd_cons (sd_asg (pd_tup (pa_consD (pd_tup (pa_consD (pd_sub (pd_callN G (O__law_take.mono (by decide)) (pa_consD (pd_var 3) (pa_consD pd_int pa_nilD))) pd_int) (pa_consD (pd_sub (pd_callN G (O__law_take.mono (by decide)) (pa_consD (pd_var 3) (pa_consD pd_int pa_nilD))) pd_int) pa_nilD))) (pa_consD (pd_add false pd_int (pd_callN G (O__law_take.mono (by decide)) (pa_consD (pd_var 3) (pa_consD pd_int pa_nilD)))) pa_nilD))) (pg_tupD G.calm (pgs_consD (pg_nameD (i := 9) G.nd) (pgs_consD (pg_nameD (i := 10) G.nd) pgs_nilD)))) (sd_cons (sd_setLc 11 false [("_law_pairs", 12)] (.inl 12) G (pi_seqD (pd_var 5)) (fun _ _ _ _ _ => pg_name G.nd rfl (by first | exact Or.inl rfl | exact Or.inr rfl)) (fun _ _ _ _ _ => pts_nilD) (fun _ _ _ _ _ => (pd_lc false [("_law_x", 13), ("_law_y", 14)] (.inr [13, 14]) G.blk (pi_seqD (pd_var 12)) (fun _ _ _ _ _ => pg_tup G.blk.calm (pgs_cons (pg_name G.blk.nd rfl (by first | exact Or.inl rfl | exact Or.inr rfl)) (pgs_cons (pg_name G.blk.nd rfl (by first | exact Or.inl rfl | exact Or.inr rfl)) pgs_nil))) (fun _ _ _ _ _ => pts_nilD) (fun _ _ _ _ _ => (pd_tup (pa_consD (pd_mulI (pd_add false (pd_var 13) (pd_ix (pd_var 9) pd_int)) (pd_var 10)) (pa_consD (pd_mulI (pd_add false (pd_var 14) (pd_ix (pd_var 9) pd_int)) (pd_var 10)) pa_nilD))))))) (sd_one (sd_if (pt_ne G (pd_callB (call_reprD G) sim_repr T.z_repr (pa_consD (pd_callCK0 G (C_first_crossing_0_parts.mono (by decide)) (pk_consD (pd_tupOf T.z_tuple (pd_lc false [("_law_pairs", 12)] (.inl 12) G (pi_seqD (pd_var 11)) (fun _ _ _ _ _ => pg_name G.nd rfl (by first | exact Or.inl rfl | exact Or.inr rfl)) (fun _ _ _ _ _ => pts_nilD) (fun _ _ _ _ _ => (pd_tupOf T.z_tuple (pd_callN G.blk (O__law_told.mono (by decide)) (pa_consD (pd_var 12) (pa_consD (pd_var 4) pa_nilD))))))) pk_nilD)) pa_nilD)) (pd_callB (call_reprD G) sim_repr T.z_repr (pa_consD (pd_ix (pd_ix (pd_var 1) (pd_neg pd_int)) pd_int) pa_nilD))) (sd_one (sd_ret pd_bl)) sd_nil))))))))))) (sd_one (sd_ret pd_bl))))
end L_k25

namespace L_k25
open PySem DL
local macro_rules | `(tactic| walk_at "st") => `(tactic| with_reducible first
  | refine s_seq ?_ | refine s_nil ?_ | refine s_asg ?_ | refine s_exp ?_ | refine s_ret ?_ | refine s_retN ?_ | refine s_brk ?_ | refine s_con ?_ | refine s_if ?_ | refine s_par ?_ | refine s_for ?_ | refine x_par ?_ | refine s_par3 ?_ | refine x_par3 ?_ | refine s_rz ?_ | refine s_rz3 rfl (by simp only [List.length_cons, List.length_nil]; decide) (by rfl) ?_ | refine s_try ?_ | refine e_xf (by with_unfolding_all rfl) (by decide +kernel) (by first | exact fld_1 | exact fld_2 (by decide +kernel) fld_1) ?_ | refine e_bm ?_ | refine isq_node ?_ | refine e_lcG ?_ | refine k_for ?_ | refine k_elt ?_ | refine i_en ?_ | refine en_N ?_ | refine e_tupOf ?_ | refine tp_L ?_ | refine tp_T ?_ | refine e_rev ?_ | refine rv_N ?_ | refine sl_N ?_ | refine s_aug (by with_unfolding_all rfl) ?_ | refine f_adII ?_ | refine f_ik3 ?_ | refine f_ic3 (by assumption) ?_ | refine f_se3 (by assumption) ?_ | refine r_1 ?_ | refine r_q (by omega) (by omega) ?_ | refine q_seq ?_ | refine q_S ?_ | refine q_L ?_ | refine q_K ?_ | refine q_T ?_ | refine p_nil ?_ | refine p_cons ?_
  | refine e_var (by with_unfolding_all rfl) ?_ | refine e_c ?_ | refine e_op ?_ | refine e_un ?_ | refine e_nil ?_ | refine e_cons ?_ | refine e_B ?_ | refine e_tup ?_ | refine e_lst ?_ | refine e_dct0 ?_ | refine e_sz (by simp only [List.length_cons, List.length_nil, sizeLine]; decide) ?_ | refine e_nwf ?_
  | refine e_and ?_ | refine e_or ?_ | refine e_not ?_ | refine e_if ?_ | refine e_chain ?_ | refine e_sl ?_ | refine e_no ?_ | refine e_part ?_ | refine e_call ?_ | refine e_callC ?_ | refine c_C rfl rfl (by with_unfolding_all simp only [pick, List.cons_append, List.nil_append, List.append_nil, List.getElem?_cons_zero, List.getElem?_cons_succ]; rfl) ?_ | refine e_m1 ?_ | refine e_m0 ?_ | refine e_lc ?_ | refine e_lcm ?_
  | refine t_yes ?_ | refine t_tru ?_ | refine t_bl ?_ | refine t_and ?_ | refine t_or ?_ | refine t_not ?_ | refine w_bl ?_ | refine w_non ?_ | refine w_int ?_ | refine x_bl ?_ | refine x_int ?_ | refine x_str ?_
  | refine i_T ?_ | refine i_F ?_ | refine i_not ?_ | refine i_dT (by first | assumption | omega | (simp only [List.length_cons, List.length_nil]; omega)) ?_ | refine i_dF (by first | assumption | omega | (simp only [List.length_cons, List.length_nil]; omega)) ?_
  | refine g_nil ?_ | refine g_cons ?_ | refine g_tup (by with_unfolding_all rfl) ?_ | refine g_sub ?_
  | refine f_adI ?_ | refine f_adT (by assumption) (by assumption) (by decide) fun _ => ?_ | refine f_slT (by assumption) (by decide) fun _ => ?_ | refine f_lnTx (by assumption) (by decide) fun _ => ?_ | refine f_adS (by unfold sizeLine; omega) ?_ | refine f_adL (by unfold sizeLine; simp only [List.length_append, List.length_cons, List.length_nil]; omega) ?_ | refine f_sub ?_ | refine f_mod (by first | decide | omega) ?_ | refine f_div (by first | exact cdiv64 (by first | decide | omega) (by first | decide | omega)) ?_ | refine f_mul (by first | exact cmul64 (by first | decide | omega) (by first | decide | omega)) ?_ | refine f_pow (cpow_of (by decide) (by decide) (by first | decide | omega)) ?_ | refine f_neg ?_
  | refine f_ltI ?_ | refine f_leI ?_ | refine f_gtI ?_ | refine f_geI ?_ | refine f_leS ?_ | refine f_ltS ?_ | refine f_eqI ?_ | refine f_neI ?_ | refine f_inS ?_ | refine f_intB ?_ | refine f_intI ?_ | refine f_abs ?_ | refine f_max ?_ | refine f_min ?_ | refine f_lnS (by first | assumption | (unfold sizeLine; omega)) ?_ | refine f_lnL ?_ | refine f_lnK ?_ | refine f_lnT ?_ | refine f_stI (by assumption) ?_ | refine f_slS (by first | assumption | (unfold sizeLine; omega)) ?_
  | refine f_ix0 ?_ | refine f_ix1 ?_ | refine f_ix2 ?_ | refine f_ik0 ?_ | refine f_ik1 ?_ | refine f_ik2 ?_ | refine f_ic0 (by assumption) ?_ | refine f_ic1 (by assumption) ?_ | refine f_ic2 (by assumption) ?_ | refine f_se0 (by assumption) ?_ | refine f_se2 (by assumption) ?_ | refine f_it0 ?_ | refine f_it1 ?_ | refine f_it2 ?_
  | refine g_n0 ?_ | refine g_n1 ?_ | refine g_n2 ?_ | refine g_n3 ?_ | refine g_n4 ?_ | refine g_n5 ?_ | refine g_n6 ?_ | refine g_n7 ?_ | refine g_n8 ?_ | refine g_n9 ?_ | refine g_n10 ?_ | refine g_n11 ?_ | refine g_set (by simp only [List.set_cons_zero, List.set_cons_succ]; rfl) ?_)

theorem take_spec {b m : Nat} {κ : Kap} {X : Str → List D → Kap → Prop} {Q : DQ} {w : Int} (hB : By b m κ) (hm : m ≤ 2 ^ 20) (w0 : 0 < w) (w1 : w < 2 ^ 64)
    (h : ∀ r κ', 0 ≤ r → r < w → By b (m + 1) κ' → Fr b κ κ' → Q (.int r) κ') : sp__law_take [.cell b, .int w] κ X Q := by
  obtain ⟨x, y, u, z, e, hy, hu, hz, hzm⟩ := hB
  (unfold sp__law_take; refine s_sp rfl ?_; simp only [startD, List.map_cons, List.map_nil, List.length_cons, List.length_nil, Nat.zero_add, Nat.reduceAdd, Nat.reduceSub, List.replicate, List.cons_append, List.nil_append]; unfold b__law_take)
  (repeat walk_at "st")
  refine i_d (fun h0 => ?_) fun h0 => ?_
  · have hw := fm_bd x w w0
    (repeat walk_at "st")
    exact h _ _ hw.1 hw.2 ⟨_, y, u, z, kset_same, hy, hu, hz, by omega⟩ Fr.box
  · have h1 : (y * (2 * (z + 1) + 3)).natAbs < 2 ^ (31 + 22) := mul_bd (by omega) (by omega)
    have h2 : (5381 * (z + 1)).natAbs < 2 ^ 34 := by omega
    have h3 : (5381 * (z + 1) * (z + 1)).natAbs < 2 ^ (34 + 21) := mul_bd h2 (by omega)
    have h4 : (u * (z + 1)).natAbs < 2 ^ (31 + 21) := mul_bd (by omega) (by omega)
    (repeat walk_at "st")
    generalize hq : Int.fmod _ 2147483647 = q
    have hq1 : 0 ≤ q ∧ q < 2147483647 := by rw [← hq]; exact fm_bd _ 2147483647 (by decide)
    (repeat walk_at "st")
    generalize Int.fdiv _ 16 = v
    have hw := fm_bd v w w0
    exact h _ _ hw.1 hw.2 ⟨_, y, u, z + 1, kset_same, hy, hu, by omega, by omega⟩ Fr.box
theorem box_spec {κ : Kap} {X : Str → List D → Kap → Prop} {Q : DQ} {c : Int}
    (h : ∀ b κ', κ b = none → By b 0 κ' → (∀ n c, κ n = some c → κ' n = some c) → Q (.cell b) κ') : sp__law_box [.int c] κ X Q := by
  (unfold sp__law_box; refine s_sp rfl ?_; simp only [startD, List.map_cons, List.map_nil, List.length_cons, List.length_nil, Nat.zero_add, Nat.reduceAdd, Nat.reduceSub, List.replicate, List.cons_append, List.nil_append]; unfold b__law_box)
  (repeat walk_at "st")
  refine e_nwt fun n hn => ?_
  have hw := fm_bd c 2147483629 (by decide)
  have hw2 := fm_bd c 2147483587 (by decide)
  refine h n _ hn ⟨_, _, _, 0, kset_same, ⟨hw.1, by omega⟩, ⟨hw2.1, by omega⟩, by decide, by decide⟩ fun m c e => ?_
  rw [kset_ne (kne e hn)]
  exact e
theorem cell_spec {κ : Kap} {X : Str → List D → Kap → Prop} {Q : DQ} {ns : List Int} {k : Nat} (hk : k < 100)
    (h : ∀ c : Int, Q (.int c) κ) : sp__law_cell [.node .klst (ns.map D.int), .int (k : Int)] κ X Q := by
  (unfold sp__law_cell; refine s_sp rfl ?_; simp only [startD, List.map_cons, List.map_nil, List.length_cons, List.length_nil, Nat.zero_add, Nat.reduceAdd, Nat.reduceSub, List.replicate, List.cons_append, List.nil_append]; unfold b__law_cell)
  (repeat walk_at "st")
  refine i_d (fun h0 => ?_) fun h0 => ?_
  · rw [List.length_map] at h0
    (repeat walk_at "st")
    have hk : k < ns.length := by omega
    exact ⟨_, at_nat (a := .int ns[k]) (by rw [List.getElem?_map, List.getElem?_eq_getElem hk]; rfl), h _⟩
  · (repeat walk_at "st")
    exact h _



theorem plain_int {κ : Kap} {X : Str → List D → Kap → Prop} {Q : DQ} {i : Int} (h : Q (.bl true) κ) : sp_is_plain [.int i] κ X Q := by
  (unfold sp_is_plain; refine s_sp rfl ?_; simp only [startD, List.map_cons, List.map_nil, List.length_cons, List.length_nil, Nat.zero_add, Nat.reduceAdd, Nat.reduceSub, List.replicate, List.cons_append, List.nil_append]; unfold b_is_plain)
  (repeat walk_at "st")
  refine isi_in _ true rfl (by decide +kernel) ?_
  (repeat walk_at "st")
  refine isi_in _ false rfl (by decide +kernel) ?_
  (repeat walk_at "st")
  exact h
theorem plain_tup {κ : Kap} {X : Str → List D → Kap → Prop} {Q : DQ} {xs : List D} (h : Q (.bl false) κ) : sp_is_plain [.node .tup xs] κ X Q := by
  (unfold sp_is_plain; refine s_sp rfl ?_; simp only [startD, List.map_cons, List.map_nil, List.length_cons, List.length_nil, Nat.zero_add, Nat.reduceAdd, Nat.reduceSub, List.replicate, List.cons_append, List.nil_append]; unfold b_is_plain)
  (repeat walk_at "st")
  refine isi_in _ false rfl (by decide +kernel) ?_
  (repeat walk_at "st")
  exact h
theorem common_part_spec {κ : Kap} {X : Str → List D → Kap → Prop} {Q : DQ} {u l : Int} (h : Q (.int (Int.gcd u l : Int)) κ) : sp_common_part [.int u, .int l] κ X Q := by
  (unfold sp_common_part; refine s_sp rfl ?_; simp only [startD, List.map_cons, List.map_nil, List.length_cons, List.length_nil, Nat.zero_add, Nat.reduceAdd, Nat.reduceSub, List.replicate, List.cons_append, List.nil_append]; unfold b_common_part)
  (repeat walk_at "st")
  refine s_while (fun m δ κ' => κ' = κ ∧ ∃ x y : Nat, δ = [some (.int x), some (.int y)] ∧ Nat.gcd x y = Int.gcd u l ∧ y = m) ⟨_, rfl, u.natAbs, l.natAbs, by rw [abs_nat, abs_nat]; rfl, rfl, rfl⟩ ?_
  rintro m δ κ' L hL ⟨rfl, x, y, rfl, hg, rfl⟩
  (repeat walk_at "st")
  refine i_d (fun h0 => ?_) fun h0 => ?_
  · (repeat walk_at "st")
    have hy : y = 0 := by omega
    subst hy
    rw [Nat.gcd_zero_right] at hg
    rw [hg]
    exact h
  · (repeat walk_at "st")
    have hy : y ≠ 0 := by omega
    refine hL (x % y) _ _ (Nat.mod_lt _ (by omega)) ⟨rfl, y, x % y, ?_, by rw [gcd_step hy]; exact hg, rfl⟩
    rw [← Int.ofNat_fmod]
    rfl
theorem is_part_pair {κ : Kap} {X : Str → List D → Kap → Prop} {Q : DQ} {a b : Int} (n : NOk a b) (hb : b ≠ 1) (h : Q (.bl true) κ) : sp_is_part [.node .tup [.int a, .int b]] κ X Q := by
  have n1 := n.1
  (unfold sp_is_part; refine s_sp rfl ?_; simp only [startD, List.map_cons, List.map_nil, List.length_cons, List.length_nil, Nat.zero_add, Nat.reduceAdd, Nat.reduceSub, List.replicate, List.cons_append, List.nil_append]; unfold b_is_part)
  (repeat walk_at "st")
  refine isi_in _ true rfl (by decide +kernel) ?_
  (repeat walk_at "st")
  refine plain_int ?_
  (repeat walk_at "st")
  refine plain_int ?_
  (repeat walk_at "st")
  refine common_part_spec ?_
  rw [n.2]
  (repeat walk_at "st")
  rw [decide_eq_true (by rfl)]
  exact h



section
variable {κ : Kap} {X : Str → List D → Kap → Prop} {Q : DQ} {k : Nat} {a b c d : Int}
end



/-- the types of things -/
def tOther (t : String) : Prop := t = "NoneType" ∨ t = "bool" ∨ t = "str" ∨ t = "list" ∨ t = "dict"
section
variable {κ : Kap} {X : Str → List D → Kap → Prop} {Q : DQ}
theorem plain_no {d : D} {t : String} (ht : tyK d κ = some (.b t)) (ho : tOther t ∨ t = "tuple") (h : Q (.bl false) κ) : sp_is_plain [d] κ X Q := by
  (unfold sp_is_plain; refine s_sp rfl ?_; simp only [startD, List.map_cons, List.map_nil, List.length_cons, List.length_nil, Nat.zero_add, Nat.reduceAdd, Nat.reduceSub, List.replicate, List.cons_append, List.nil_append]; unfold b_is_plain)
  (repeat walk_at "st")
  rcases ho with (rfl | rfl | rfl | rfl | rfl) | rfl
  · refine isi_in _ false ht (by decide +kernel) ?_
    (repeat walk_at "st")
    exact h
  · refine isi_in _ true ht (by decide +kernel) ?_
    (repeat walk_at "st")
    refine isi_in _ true ht (by decide +kernel) ?_
    (repeat walk_at "st")
    exact h
  · refine isi_in _ false ht (by decide +kernel) ?_
    (repeat walk_at "st")
    exact h
  · refine isi_in _ false ht (by decide +kernel) ?_
    (repeat walk_at "st")
    exact h
  · refine isi_in _ false ht (by decide +kernel) ?_
    (repeat walk_at "st")
    exact h
  · refine isi_in _ false ht (by decide +kernel) ?_
    (repeat walk_at "st")
    exact h
theorem part_no {d : D} {t : String} (ht : tyK d κ = some (.b t)) (ho : tOther t ∨ t = "int") (h : Q (.bl false) κ) : sp_is_part [d] κ X Q := by
  (unfold sp_is_part; refine s_sp rfl ?_; simp only [startD, List.map_cons, List.map_nil, List.length_cons, List.length_nil, Nat.zero_add, Nat.reduceAdd, Nat.reduceSub, List.replicate, List.cons_append, List.nil_append]; unfold b_is_part)
  (repeat walk_at "st")
  rcases ho with (rfl | rfl | rfl | rfl | rfl) | rfl
  all_goals
    refine isi_in _ false ht (by decide +kernel) ?_
    (repeat walk_at "st")
    exact h
theorem part_len {xs : List D} (hl : xs.length ≠ 2) (h : Q (.bl false) κ) : sp_is_part [.node .tup xs] κ X Q := by
  (unfold sp_is_part; refine s_sp rfl ?_; simp only [startD, List.map_cons, List.map_nil, List.length_cons, List.length_nil, Nat.zero_add, Nat.reduceAdd, Nat.reduceSub, List.replicate, List.cons_append, List.nil_append]; unfold b_is_part)
  (repeat walk_at "st")
  refine isi_in _ true rfl (by decide +kernel) ?_
  (repeat walk_at "st")
  exact h
theorem part_ints {a b : Int} (hb : b ≤ 1 ∨ Int.gcd a b ≠ 1) (h : Q (.bl false) κ) : sp_is_part [.node .tup [.int a, .int b]] κ X Q := by
  (unfold sp_is_part; refine s_sp rfl ?_; simp only [startD, List.map_cons, List.map_nil, List.length_cons, List.length_nil, Nat.zero_add, Nat.reduceAdd, Nat.reduceSub, List.replicate, List.cons_append, List.nil_append]; unfold b_is_part)
  (repeat walk_at "st")
  refine isi_in _ true rfl (by decide +kernel) ?_
  (repeat walk_at "st")
  refine plain_int ?_
  (repeat walk_at "st")
  refine plain_int ?_
  (repeat walk_at "st")
  refine i_d (fun h1 => ?_) fun h1 => ?_
  · (repeat walk_at "st")
    refine common_part_spec ?_
    (repeat walk_at "st")
    rw [decide_eq_false (by omega)]
    exact h
  · rw [decide_eq_false h1]
    exact h
/-- no number -/
inductive NoNum (κ : Kap) : D → Prop
  | ty {d : D} {t : String} (h : tyK d κ = some (.b t)) (o : tOther t) : NoNum κ d
  | len {xs : List D} (h : xs.length ≠ 2) : NoNum κ (.node .tup xs)
  | prs {a b : Int} (h : b ≤ 1 ∨ Int.gcd a b ≠ 1) : NoNum κ (.node .tup [.int a, .int b])
theorem number_no {d : D} (n : NoNum κ d) (h : Q (.bl false) κ) : sp_is_number [d] κ X Q := by
  cases n with
  | ty ht o =>
    (unfold sp_is_number; refine s_sp rfl ?_; simp only [startD, List.map_cons, List.map_nil, List.length_cons, List.length_nil, Nat.zero_add, Nat.reduceAdd, Nat.reduceSub, List.replicate, List.cons_append, List.nil_append]; unfold b_is_number)
    (repeat walk_at "st")
    refine plain_no ht (.inl o) ?_
    (repeat walk_at "st")
    exact part_no ht (.inl o) h
  | len hl =>
    (unfold sp_is_number; refine s_sp rfl ?_; simp only [startD, List.map_cons, List.map_nil, List.length_cons, List.length_nil, Nat.zero_add, Nat.reduceAdd, Nat.reduceSub, List.replicate, List.cons_append, List.nil_append]; unfold b_is_number)
    (repeat walk_at "st")
    refine plain_tup ?_
    (repeat walk_at "st")
    exact part_len hl h
  | prs hb =>
    (unfold sp_is_number; refine s_sp rfl ?_; simp only [startD, List.map_cons, List.map_nil, List.length_cons, List.length_nil, Nat.zero_add, Nat.reduceAdd, Nat.reduceSub, List.replicate, List.cons_append, List.nil_append]; unfold b_is_number)
    (repeat walk_at "st")
    refine plain_tup ?_
    (repeat walk_at "st")
    exact part_ints hb h
theorem number_yes {a b : Int} (n : NOk a b) (h : Q (.bl true) κ) : sp_is_number [nb a b] κ X Q := by
  by_cases hb : b = 1
  · subst hb
    rw [nb_1]
    (unfold sp_is_number; refine s_sp rfl ?_; simp only [startD, List.map_cons, List.map_nil, List.length_cons, List.length_nil, Nat.zero_add, Nat.reduceAdd, Nat.reduceSub, List.replicate, List.cons_append, List.nil_append]; unfold b_is_number)
    (repeat walk_at "st")
    refine plain_int ?_
    (repeat walk_at "st")
    exact h
  · rw [nb_p hb]
    (unfold sp_is_number; refine s_sp rfl ?_; simp only [startD, List.map_cons, List.map_nil, List.length_cons, List.length_nil, Nat.zero_add, Nat.reduceAdd, Nat.reduceSub, List.replicate, List.cons_append, List.nil_append]; unfold b_is_number)
    (repeat walk_at "st")
    refine plain_tup ?_
    (repeat walk_at "st")
    exact is_part_pair n hb h
end



section
variable {κ : Kap} {X : Str → List D → Kap → Prop} {Q : DQ} {q : Rat} {m : Int}
theorem base_q (h : Q (.int q.den) κ) : sp_base_of [nq q] κ X Q := by
  by_cases hb : (q.den : Int) = 1
  · have e : nq q = .int q.num := by unfold nq; rw [hb]; exact nb_1 _
    rw [e]
    rw [hb] at h
    (unfold sp_base_of; refine s_sp rfl ?_; simp only [startD, List.map_cons, List.map_nil, List.length_cons, List.length_nil, Nat.zero_add, Nat.reduceAdd, Nat.reduceSub, List.replicate, List.cons_append, List.nil_append]; unfold b_base_of)
    (repeat walk_at "st")
    refine isi_in _ false rfl (by decide +kernel) ?_
    (repeat walk_at "st")
    exact h
  · have e : nq q = .node .tup [.int q.num, .int q.den] := nb_p hb
    rw [e]
    (unfold sp_base_of; refine s_sp rfl ?_; simp only [startD, List.map_cons, List.map_nil, List.length_cons, List.length_nil, Nat.zero_add, Nat.reduceAdd, Nat.reduceSub, List.replicate, List.cons_append, List.nil_append]; unfold b_base_of)
    (repeat walk_at "st")
    refine isi_in _ true rfl (by decide +kernel) ?_
    (repeat walk_at "st")
    exact h
theorem whole_q {k : Nat} (hz : Sz k q) (hk : k ≤ 4000) (hm : m.natAbs < 2 ^ 64) (h : Q (.int (q.num * m.fdiv q.den)) κ) : sp_whole_of [nq q, .int m] κ X Q := by
  have hd0 := Sz.d0 q
  have hc : CDivD m (q.den : Int) := cdiv_of k hd0 hz.db (by omega)
  have hmd : (m.fdiv (q.den : Int)).natAbs < 2 ^ 65 := by
    have := fdiv_abs_le (x := m) (y := (q.den : Int)) (by have := q.den_pos; omega)
    omega
  have hmu : L2.CMulW q.num (m.fdiv (q.den : Int)) := cmul_of k 65 hz.1 hmd (by omega)
  by_cases hb : (q.den : Int) = 1
  · have e : nq q = .int q.num := by unfold nq; rw [hb]; exact nb_1 _
    have e2 : m.fdiv (q.den : Int) = m := by rw [hb]; exact Int.fdiv_one m
    rw [e]
    rw [e2] at h
    (unfold sp_whole_of; refine s_sp rfl ?_; simp only [startD, List.map_cons, List.map_nil, List.length_cons, List.length_nil, Nat.zero_add, Nat.reduceAdd, Nat.reduceSub, List.replicate, List.cons_append, List.nil_append]; unfold b_whole_of)
    (repeat walk_at "st")
    refine isi_in _ false rfl (by decide +kernel) ?_
    (repeat walk_at "st")
    refine f_mul (cmul_of k 64 hz.1 hm (by omega)) ?_
    exact h
  · have e : nq q = .node .tup [.int q.num, .int q.den] := nb_p hb
    rw [e]
    (unfold sp_whole_of; refine s_sp rfl ?_; simp only [startD, List.map_cons, List.map_nil, List.length_cons, List.length_nil, Nat.zero_add, Nat.reduceAdd, Nat.reduceSub, List.replicate, List.cons_append, List.nil_append]; unfold b_whole_of)
    (repeat walk_at "st")
    refine isi_in _ true rfl (by decide +kernel) ?_
    (repeat walk_at "st")
    refine f_div hc ?_
    refine f_mul hmu ?_
    exact h
/-- tuple or list -/
theorem isi_lt {d : D} {xs : List D} (w : Wk κ d xs) (h : Q (.bl true) κ) : fIsi kt [d, .node .tup [.ty "list", .ty "tuple"]] κ Q := by
  cases w with
  | lst => exact ⟨_, _, rfl, by decide +kernel, h⟩
  | tup => exact ⟨_, _, rfl, by decide +kernel, h⟩
  | cell e => exact ⟨_, _, ty_cell e, by decide +kernel, h⟩
theorem is_list_yes {d : D} {xs : List D} {lo hi : Int} (w : Wk κ d xs) (h0 : lo ≤ xs.length) (h1 : (xs.length : Int) ≤ hi) (h : Q (.bl true) κ) : sp_is_list [d, .int lo, .int hi] κ X Q := by
  (unfold sp_is_list; refine s_sp rfl ?_; simp only [startD, List.map_cons, List.map_nil, List.length_cons, List.length_nil, Nat.zero_add, Nat.reduceAdd, Nat.reduceSub, List.replicate, List.cons_append, List.nil_append]; unfold b_is_list)
  (repeat walk_at "st")
  refine isi_lt w ?_
  (repeat walk_at "st")
  refine f_lnW w ?_
  (repeat walk_at "st")
  rw [decide_eq_true h1]
  exact h
/-- the parts: rows of places -/
def Row (κ : Kap) (d : D) (ps : List (Rat × Rat)) : Prop := Wk κ d (ps.map fun p => plD p.1 p.2)
def Rows (κ : Kap) (d : D) (rows : List (List (Rat × Rat))) : Prop := ∃ xs, Wk κ d xs ∧ xs.length = rows.length ∧ ∀ (i : Nat) (r : List (Rat × Rat)), rows[i]? = some r → ∃ e : D, xs[i]? = some e ∧ Row κ e r
theorem Row.mono {κ' : Kap} {d : D} {ps : List (Rat × Rat)} (h : Row κ d ps) (f : Fa κ κ') : Row κ' d ps := Wk.mono h f
theorem Rows.mono {κ' : Kap} {d : D} {rows : List (List (Rat × Rat))} (h : Rows κ d rows) (f : Fa κ κ') : Rows κ' d rows :=
  let ⟨xs, h1, h2, h3⟩ := h
  ⟨xs, h1.mono f, h2, fun i r e => let ⟨d, z1, z2⟩ := h3 i r e; ⟨d, z1, z2.mono f⟩⟩
theorem need_ok {d : D} {rows : List (List (Rat × Rat))} (R : Rows κ d rows) (h1 : 1 ≤ rows.length) (h4 : rows.length ≤ 4) (hr : ∀ r ∈ rows, 1 ≤ r.length ∧ r.length ≤ 100) (h : ∀ κ', Fa κ κ' → Q .non κ') : sp_need_parts [d] κ X Q := by
  obtain ⟨xs, w, hl, hx⟩ := R
  (unfold sp_need_parts; refine s_sp rfl ?_; simp only [startD, List.map_cons, List.map_nil, List.length_cons, List.length_nil, Nat.zero_add, Nat.reduceAdd, Nat.reduceSub, List.replicate, List.cons_append, List.nil_append]; unfold b_need_parts)
  (repeat walk_at "st")
  refine is_list_yes w (by omega) (by omega) ?_
  (repeat walk_at "st")
  refine q_wk w fun gd hgd => ?_
  refine dl_ix (fun i δ κ' => Fa κ κ' ∧ ∃ a1 a2, δ = [some d, a1, a2, (none : Option D)] ∨ ∃ a1 a2 a3, δ = [some d, a1, a2, a3]) ?_ ?_ ⟨Fa.refl, none, none, .inr ⟨_, _, _, rfl⟩⟩
  · rintro δ κ' ⟨f, a1, a2, (rfl | ⟨b1, b2, b3, rfl⟩)⟩
    · refine ⟨hgd _ f, ?_⟩
      exact h _ f
    · refine ⟨hgd _ f, ?_⟩
      exact h _ f
  · rintro i e δ κ' L he hL ⟨f, a1, a2, hδ⟩
    have hδ : ∃ a1 a2 a3, δ = [some d, a1, a2, a3] := by
      rcases hδ with rfl | ⟨b1, b2, b3, rfl⟩
      · exact ⟨_, _, _, rfl⟩
      · exact ⟨_, _, _, rfl⟩
    obtain ⟨a1, a2, a3, rfl⟩ := hδ
    have hlt : i < rows.length := by
      have := (List.getElem?_eq_some_iff.mp he).1
      omega
    obtain ⟨e', q1, w1⟩ := hx i rows[i] (List.getElem?_eq_getElem hlt)
    rw [he] at q1
    cases q1
    have hlen := hr _ (List.getElem_mem hlt)
    have w1 := w1.mono f
    refine ⟨hgd _ f, ?_⟩
    (repeat walk_at "st")
    refine is_list_yes w1 (by rw [List.length_map]; omega) (by rw [List.length_map]; omega) ?_
    (repeat walk_at "st")
    refine q_wk w1 fun gd2 hgd2 => ?_
    refine dl_ix (fun j δ κ2 => Fa κ' κ2 ∧ ∃ a2 a3, δ = [some d, some e, a2, a3]) ?_ ?_ ⟨Fa.refl, _, _, rfl⟩
    · rintro δ κ2 ⟨f2, a2, a3, rfl⟩
      exact ⟨hgd2 _ f2, hL _ _ ⟨f.trans f2, none, none, .inr ⟨_, _, _, rfl⟩⟩⟩
    · rintro j p δ κ2 L2' hp hL2 ⟨f2, a2, a3, rfl⟩
      obtain ⟨pp, hpm, rfl⟩ := List.mem_map.mp (List.mem_of_getElem? hp)
      refine ⟨hgd2 _ f2, ?_⟩
      unfold plD
      (repeat walk_at "st")
      refine isi_in _ true rfl (by decide +kernel) ?_
      (repeat walk_at "st")
      intro n hn
      refine lcLoop_ix (fun k acc κ3 => acc = (List.replicate k true).map D.bl ∧ κ3 n = some (.live .lst acc) ∧ Fa κ2 κ3) ?_ ?_ ⟨rfl, kset_same, Fa.new hn⟩
      · rintro acc κ3 ⟨rfl, en, f3⟩
        refine ⟨trivial, en, ?_⟩
        refine ⟨[true, true], rfl, ?_⟩
        (repeat walk_at "st")
        exact hL2 _ _ ⟨f2.trans (f3.put hn), _, _, rfl⟩
      · rintro k q acc κ3 L3 hq hL3 ⟨rfl, en, f3⟩
        have hqq : ∃ q', q = nq q' := by
          have := List.mem_of_getElem? hq
          simp only [List.mem_cons, List.not_mem_nil, or_false] at this
          rcases this with rfl | rfl
          · exact ⟨_, rfl⟩
          · exact ⟨_, rfl⟩
        obtain ⟨q', rfl⟩ := hqq
        have hk : k < 2 := (List.getElem?_eq_some_iff.mp hq).1
        refine ⟨trivial, ?_⟩
        rw [bi_inl]
        simp only [dwipe, List.set_cons_zero, List.set_cons_succ]
        (repeat walk_at "st")
        refine number_yes (nq_ok q') ?_
        refine ⟨en, by rw [List.length_map, List.length_replicate]; unfold sizeLine; omega, hL3 _ _ ⟨by rw [List.replicate_succ', List.map_append]; rfl, kset_same, f3.put hn⟩⟩
end



/-- what is gathered of the bases -/
structure Gat (B : Nat) (N : Nat) (ds : List Nat) : Prop where
  dv : ∀ d ∈ ds, 0 < d ∧ d ∣ B
  ln : ds.length ≤ N
theorem Gat.add {B N d : Nat} {ds : List Nat} (g : Gat B N ds) (h0 : 0 < d) (h : d ∣ B) : Gat B (N + 1) (ds ++ [d]) :=
  ⟨fun e he => (List.mem_append.mp he).elim (g.dv e) fun z => by rw [List.mem_singleton.mp z]; exact ⟨h0, h⟩, by rw [List.length_append]; have := g.ln; simp; omega⟩
def Has (ds : List Nat) (p : Rat × Rat) : Prop := p.1.den ∈ ds ∧ p.2.den ∈ ds
theorem Has.app {ds es : List Nat} {p : Rat × Rat} (h : Has ds p) : Has (ds ++ es) p := ⟨List.mem_append_left _ h.1, List.mem_append_left _ h.2⟩
theorem lcm_dvd {M b B : Nat} (h : M ∣ B) (h' : b ∣ B) : Nat.lcm M b ∣ B := Nat.lcm_dvd h h'
theorem int_map_app {ds : List Nat} {d : Nat} : (ds.map fun d => D.int (d : Nat)) ++ [D.int (d : Nat)] = (ds ++ [d]).map fun d => D.int (d : Nat) := by rw [List.map_append]; rfl
section
variable {κ : Kap} {X : Str → List D → Kap → Prop} {Q : DQ}
theorem scale_q {B : Nat} {d : D} {rows : List (List (Rat × Rat))} (R : Rows κ d rows) (hB0 : 0 < B) (hB : B ≤ 64) (h4 : rows.length ≤ 4) (hr : ∀ r ∈ rows, r.length ≤ 100) (hd : ∀ r ∈ rows, ∀ p ∈ r, p.1.den ∣ B ∧ p.2.den ∣ B)
    (h : ∀ (M : Nat) κ', 0 < M → M ∣ B → (∀ r ∈ rows, ∀ p ∈ r, p.1.den ∣ M ∧ p.2.den ∣ M) → Fa κ κ' → Q (.int (M : Nat)) κ') : sp_scale_of [d] κ X Q := by
  obtain ⟨xs, w, hl, hx⟩ := R
  (unfold sp_scale_of; refine s_sp rfl ?_; simp only [startD, List.map_cons, List.map_nil, List.length_cons, List.length_nil, Nat.zero_add, Nat.reduceAdd, Nat.reduceSub, List.replicate, List.cons_append, List.nil_append]; unfold b_scale_of)
  (repeat walk_at "st")
  refine q_wk w fun gd hgd => ?_
  intro n hn
  refine cl_ix (fun i κ' => ∃ ds : List Nat, κ' n = some (.live .lst (ds.map fun d => D.int (d : Nat))) ∧ Fa κ κ' ∧ Gat B (200 * i) ds ∧ ∀ i' r, i' < i → rows[i']? = some r → ∀ p ∈ r, Has ds p) ?_ ?_ ⟨[], kset_same, Fa.new hn, ⟨fun d h => absurd h List.not_mem_nil, Nat.zero_le _⟩, fun i' r h => by omega⟩
  · rintro κ' ⟨ds, en, f, g, hall⟩
    refine ⟨hgd _ f, _, en, ?_⟩
    have hall : ∀ r ∈ rows, ∀ p ∈ r, Has ds p := fun r hr p hp => by
      obtain ⟨i, hi⟩ := List.getElem?_of_mem hr
      exact hall i r (by have := (List.getElem?_eq_some_iff.mp hi).1; omega) hi p hp
    have f := f.put (κ := κ) (c := .dead) hn
    generalize kset κ' n .dead = κ2 at f
    (repeat walk_at "st")
    refine dl_ix (fun i δ κ3 => κ3 = κ2 ∧ ∃ M : Nat, (∃ a2, δ = [some d, some (.int (M : Nat)), a2, none, none, none]) ∧ 0 < M ∧ M ∣ B ∧ ∀ j e, j < i → ds[j]? = some e → e ∣ M) ?_ ?_ ⟨rfl, 1, ⟨_, rfl⟩, by decide, Nat.one_dvd _, fun j e h => by omega⟩
    · rintro δ κ3 ⟨rfl, M, ⟨a2, rfl⟩, m0, m1, m2⟩
      refine ⟨trivial, ?_⟩
      (repeat walk_at "st")
      have has : ∀ e ∈ ds, e ∣ M := fun e he => by
        obtain ⟨j, hj⟩ := List.getElem?_of_mem he
        exact m2 j e (by rw [List.length_map]; exact (List.getElem?_eq_some_iff.mp hj).1) hj
      exact h M _ m0 m1 (fun r hr p hp => ⟨has _ (hall r hr p hp).1, has _ (hall r hr p hp).2⟩) f
    · rintro i e δ κ3 L he hL ⟨rfl, M, ⟨a2, rfl⟩, m0, m1, m2⟩
      rw [List.getElem?_map, Option.map_eq_some_iff] at he
      obtain ⟨b, hb, rfl⟩ := he
      have gb := g.dv b (List.mem_of_getElem? hb)
      have hM := Nat.le_of_dvd hB0 m1
      have hbB := Nat.le_of_dvd hB0 gb.2
      have hg0 : 0 < Nat.gcd M b := Nat.gcd_pos_of_pos_left _ m0
      have hgl : Nat.gcd M b ≤ M := Nat.gcd_le_left _ m0
      refine ⟨trivial, ?_⟩
      (repeat walk_at "st")
      refine common_part_spec ?_
      rw [show Int.gcd (M : Int) (b : Int) = Nat.gcd M b from rfl]
      have e1 : ((M : Int) * (b : Int)).fdiv (Nat.gcd M b : Nat) = (Nat.lcm M b : Nat) := by
        rw [← Int.natCast_mul, ← Int.ofNat_fdiv]
        rfl
      (repeat walk_at "st")
      rw [e1]
      refine hL _ _ ⟨rfl, Nat.lcm M b, ⟨_, rfl⟩, Nat.lcm_pos m0 gb.1, lcm_dvd m1 gb.2, fun j e hj hje => ?_⟩
      by_cases hji : j = i
      · subst hji
        rw [hb] at hje
        cases hje
        exact Nat.dvd_lcm_right _ _
      · exact Nat.dvd_trans (m2 j e (by omega) hje) (Nat.dvd_lcm_left _ _)
  · rintro i e κ' L he hL ⟨ds, en, f, g, hall⟩
    have hlt : i < rows.length := by
      have := (List.getElem?_eq_some_iff.mp he).1
      omega
    obtain ⟨e', q1, w1⟩ := hx i rows[i] (List.getElem?_eq_getElem hlt)
    rw [he] at q1
    cases q1
    have hrow : rows[i] ∈ rows := List.getElem_mem hlt
    have hrl := hr _ hrow
    have hdr := hd _ hrow
    generalize hrw : rows[i] = row at w1 hrow hrl hdr
    refine ⟨hgd _ f, ?_⟩
    rw [bi_inl]
    simp only [dwipe, List.set_cons_zero, List.set_cons_succ]
    (repeat walk_at "st")
    refine q_wk2 w1 f fun gd2 hgd2 => ?_
    refine cl_ix (fun j κ2 => ∃ es : List Nat, κ2 n = some (.live .lst ((ds ++ es).map fun d => D.int (d : Nat))) ∧ Fa κ κ2 ∧ (∀ m c, m ≠ n → κ' m = some c → κ2 m = some c) ∧ Gat B (200 * i + 2 * j) (ds ++ es) ∧ ∀ j' p, j' < j → row[j']? = some p → Has (ds ++ es) p) ?_ ?_
      ⟨[], by rw [List.append_nil]; exact en, f, fun m c _ e => e, by rw [List.append_nil]; exact ⟨g.dv, by have := g.ln; omega⟩, fun j' p h => by omega⟩
    · rintro κ2 ⟨es, en2, f2, f3, g2, hj⟩
      refine ⟨hgd2 _ f2, ?_⟩
      refine hL _ ⟨ds ++ es, en2, f2, ⟨g2.dv, ?_⟩, ?_⟩
      · have := g2.ln
        rw [List.length_map] at this
        omega
      · intro i' r hi' hri p hp
        by_cases e1 : i' = i
        · subst e1
          rw [List.getElem?_eq_getElem hlt, hrw] at hri
          cases hri
          obtain ⟨j', hj'⟩ := List.getElem?_of_mem hp
          exact hj j' p (by rw [List.length_map]; exact (List.getElem?_eq_some_iff.mp hj').1) hj'
        · exact (hall i' r (by omega) hri p hp).app
    · rintro j p κ2 L2 hp hL2 ⟨es, en2, f2, f3, g2, hj⟩
      rw [List.getElem?_map, Option.map_eq_some_iff] at hp
      obtain ⟨pp, hpp, rfl⟩ := hp
      have hdp := hdr pp (List.mem_of_getElem? hpp)
      refine ⟨hgd2 _ f2, ?_⟩
      rw [bi_inl]
      simp only [dwipe, List.set_cons_zero, List.set_cons_succ]
      unfold plD
      (repeat walk_at "st")
      have hl0 := g2.ln
      have hjr : j < row.length := by
        have := (List.getElem?_eq_some_iff.mp hpp).1
        exact this
      refine cl_cons trivial ?_
      rw [bi_inl]
      simp only [dwipe, List.set_cons_zero, List.set_cons_succ]
      (repeat walk_at "st")
      refine base_q ?_
      have gA := g2.add pp.1.den_pos hdp.1
      refine ⟨_, en2, by rw [List.length_map]; unfold sizeLine; omega, ?_⟩
      rw [int_map_app]
      refine cl_cons trivial ?_
      rw [bi_inl]
      simp only [dwipe, List.set_cons_zero, List.set_cons_succ]
      (repeat walk_at "st")
      refine base_q ?_
      have gB := gA.add pp.2.den_pos hdp.2
      refine ⟨_, kset_same, by rw [List.length_map]; have := gA.ln; unfold sizeLine; omega, ?_⟩
      rw [int_map_app]
      refine cl_nil trivial ?_
      refine hL2 _ ⟨es ++ [pp.1.den] ++ [pp.2.den], ?_, (f2.put hn).put hn, fun m c hm e => ?_, ?_, fun j' p hj' hp' => ?_⟩
      · rw [kset_same, ← List.append_assoc, ← List.append_assoc]
      · rw [kset_ne hm, kset_ne hm]
        exact f3 m c hm e
      · rw [← List.append_assoc, ← List.append_assoc]
        exact ⟨gB.dv, by have := gB.ln; omega⟩
      · rw [← List.append_assoc, ← List.append_assoc]
        by_cases e1 : j' = j
        · subst e1
          rw [hpp] at hp'
          cases hp'
          exact ⟨by simp, by simp⟩
        · exact ((hj j' p (by omega) hp').app).app
end



def wI (M : Nat) (q : Rat) : Int := q.num * (M : Int).fdiv q.den
def wP (M : Nat) (p : Rat × Rat) : Int × Int := (wI M p.1, wI M p.2)
section
variable {κ : Kap} {X : Str → List D → Kap → Prop} {Q : DQ}
theorem wholes_q {B : Nat} {d : D} {rows : List (List (Rat × Rat))} (R : Rows κ d rows) (hB0 : 0 < B) (hB : B ≤ 64) (h4 : rows.length ≤ 4) (hr : ∀ r ∈ rows, r.length ≤ 100) (hd : ∀ r ∈ rows, ∀ p ∈ r, p.1.den ∣ B ∧ p.2.den ∣ B) (hz : ∀ r ∈ rows, ∀ p ∈ r, Sz 200 p.1 ∧ Sz 200 p.2)
    (h : ∀ (M n : Nat) κ', 0 < M → M ∣ B → (∀ r ∈ rows, ∀ p ∈ r, p.1.den ∣ M ∧ p.2.den ∣ M) → κ n = none → κ' n = some (.live .lst (rows.map fun r => .node .lst (r.map fun p => prD (wP M p)))) → Fa κ κ' → Q (.cell n) κ') : sp_in_wholes [d] κ X Q := by
  (unfold sp_in_wholes; refine s_sp rfl ?_; simp only [startD, List.map_cons, List.map_nil, List.length_cons, List.length_nil, Nat.zero_add, Nat.reduceAdd, Nat.reduceSub, List.replicate, List.cons_append, List.nil_append]; unfold b_in_wholes)
  (repeat walk_at "st")
  refine scale_q R hB0 hB h4 hr hd fun M κ1 m0 m1 m2 f1 => ?_
  have hM := Nat.le_of_dvd hB0 m1
  (repeat walk_at "st")
  refine e_nwt fun n hn => ?_
  have hn0 : κ n = none := by
    cases e : κ n with
    | none => rfl
    | some c => rw [f1 _ _ e] at hn; cases hn
  obtain ⟨xs, w, hl, hx⟩ := R
  (repeat walk_at "st")
  refine q_wk2 w (f1.trans (Fa.new hn)) fun gd hgd => ?_
  refine dl_ix (fun i δ κ' => (∃ a3 a4 a5, δ = [some d, some (.int (M : Nat)), some (.cell n), a3, a4, a5]) ∧ Fa κ κ' ∧ κ' n = some (.live .lst ((rows.take i).map fun r => .node .lst (r.map fun p => prD (wP M p))))) ?_ ?_ ⟨⟨_, _, _, rfl⟩, f1.trans (Fa.new hn), kset_same⟩
  · rintro δ κ' ⟨⟨a3, a4, a5, rfl⟩, f, en⟩
    refine ⟨hgd _ f, ?_⟩
    rw [hl, List.take_length] at en
    (repeat walk_at "st")
    exact h M n _ m0 m1 m2 hn0 en f
  · rintro i e δ κ' L he hL ⟨⟨a3, a4, a5, rfl⟩, f, en⟩
    have hlt : i < rows.length := by
      have := (List.getElem?_eq_some_iff.mp he).1
      omega
    obtain ⟨e', q1, w1⟩ := hx i rows[i] (List.getElem?_eq_getElem hlt)
    rw [he] at q1
    cases q1
    have hrow : rows[i] ∈ rows := List.getElem_mem hlt
    have hrl := hr _ hrow
    have hzr := hz _ hrow
    have htk : rows.take (i + 1) = rows.take i ++ [rows[i]] := by rw [List.take_succ, List.getElem?_eq_getElem hlt]; rfl
    rw [htk] at hL
    generalize rows[i] = row at w1 hrow hrl hzr hL
    refine ⟨hgd _ f, ?_⟩
    (repeat walk_at "st")
    refine isq_cell en ?_
    (repeat walk_at "st")
    refine q_wk2 w1 f fun gd2 hgd2 => ?_
    intro n1 hn1
    have hne : n ≠ n1 := kne en hn1
    refine lcLoop_ix (fun j acc κ2 => acc = (row.take j).map (fun p => prD (wP M p)) ∧ κ2 n1 = some (.live .lst acc) ∧ Fa κ' κ2) ?_ ?_ ⟨rfl, kset_same, Fa.new hn1⟩
    · rintro acc κ2 ⟨rfl, e1, f2⟩
      refine ⟨hgd2 _ (f.trans f2), e1, ?_⟩
      have f3 := f2.put (κ := κ') (c := .dead) hn1
      rw [List.length_map, List.take_length]
      (repeat walk_at "st")
      refine f_app (f3 _ _ en) (by rw [List.length_map, List.length_take]; omega) ?_
      have en3 := f3 _ _ en
      have f4 := f.trans f3
      generalize kset κ2 n1 .dead = κ3 at en3 f4
      (repeat walk_at "st")
      refine hL _ _ ⟨⟨_, _, _, rfl⟩, ?_, ?_⟩
      · exact f4.put hn0
      · rw [kset_same, List.map_append]
        rfl
    · rintro j p acc κ2 L2 hp hL2 ⟨rfl, e1, f2⟩
      rw [List.getElem?_map, Option.map_eq_some_iff] at hp
      obtain ⟨pp, hpp, rfl⟩ := hp
      have hzp := hzr pp (List.mem_of_getElem? hpp)
      have hjl := (List.getElem?_eq_some_iff.mp hpp).1
      refine ⟨hgd2 _ (f.trans f2), ?_⟩
      rw [bi_inl]
      simp only [dwipe, List.set_cons_zero, List.set_cons_succ]
      unfold plD
      (repeat walk_at "st")
      intro n2 hn2
      have hne2 := kne e1 hn2
      refine lcLoop_ix (fun k acc2 κ3 => acc2 = [D.int (wI M pp.1), D.int (wI M pp.2)].take k ∧ κ3 n2 = some (.live .lst acc2) ∧ Fa κ2 κ3) ?_ ?_ ⟨rfl, kset_same, Fa.new hn2⟩
      · rintro acc2 κ3 ⟨rfl, e2, f3⟩
        refine ⟨trivial, e2, ?_⟩
        have f4 := f3.put (κ := κ2) (c := .dead) hn2
        refine tp_L ?_
        refine ⟨f4 _ _ e1, by rw [List.length_map, List.length_take]; unfold sizeLine; omega, hL2 _ _ ⟨?_, kset_same, (f2.trans f4).put hn1⟩⟩
        rw [List.take_succ, hpp, List.map_append]
        rfl
      · rintro k q acc2 κ3 L3 hq hL3 ⟨rfl, e2, f3⟩
        have hk : k < 2 := (List.getElem?_eq_some_iff.mp hq).1
        refine ⟨trivial, ?_⟩
        rw [bi_inl]
        simp only [dwipe, List.set_cons_zero, List.set_cons_succ]
        have key : ∃ q' : Rat, q = nq q' ∧ Sz 200 q' ∧ [D.int (wI M pp.1), D.int (wI M pp.2)].take (k + 1) = [D.int (wI M pp.1), D.int (wI M pp.2)].take k ++ [D.int (wI M q')] := by
          rcases (show k = 0 ∨ k = 1 by omega) with rfl | rfl
          · cases hq
            exact ⟨pp.1, rfl, hzp.1, rfl⟩
          · cases hq
            exact ⟨pp.2, rfl, hzp.2, rfl⟩
        obtain ⟨q', rfl, hzq, hlast⟩ := key
        (repeat walk_at "st")
        refine whole_q hzq (by decide) (by omega) ?_
        refine ⟨e2, by rw [List.length_take]; unfold sizeLine; omega, hL3 _ _ ⟨hlast.symm, kset_same, f3.put hn2⟩⟩
end

abbrev Pt := Int × Int
def sbt (p q : Pt) : Pt := (p.1 - q.1, p.2 - q.2)
def crs (u v : Pt) : Int := u.1 * v.2 - u.2 * v.1
def dtp (u v : Pt) : Int := u.1 * v.1 + u.2 * v.2
def sideI (f s t : Pt) : Int := (s.1 - f.1) * (t.2 - f.2) - (s.2 - f.2) * (t.1 - f.1)
def bt1 (a x : Int) : Prop := min 0 a ≤ x ∧ x ≤ max 0 a
def bt0 (s v : Pt) : Prop := bt1 s.1 v.1 ∧ bt1 s.2 v.2
def opp (x y : Int) : Prop := (x < 0 ∧ 0 < y) ∨ (0 < x ∧ y < 0)
theorem bt1_of {a c s v : Int} (ha : 0 < a) (h : a * v = c * s) (h0 : 0 ≤ c) (h1 : c ≤ a) : bt1 s v := by
  unfold bt1
  by_cases hs : 0 ≤ s
  · have e1 : 0 ≤ c * s := Int.mul_nonneg h0 hs
    have e2 : c * s ≤ a * s := Int.mul_le_mul_of_nonneg_right h1 hs
    have v0 : 0 ≤ v := by
      rw [← h] at e1
      exact Int.nonneg_of_mul_nonneg_right e1 ha
    have v1 : v ≤ s := Int.le_of_mul_le_mul_left (by rw [h]; exact e2) ha
    omega
  · have e1 : c * s ≤ 0 := Int.mul_nonpos_of_nonneg_of_nonpos h0 (by omega)
    have e2 : a * s ≤ c * s := Int.mul_le_mul_of_nonpos_right h1 (by omega)
    have v0 : v ≤ 0 := Int.le_of_mul_le_mul_left (by rw [h, Int.mul_zero]; exact e1) ha
    have v1 : s ≤ v := Int.le_of_mul_le_mul_left (by rw [h]; exact e2) ha
    omega
theorem bt1_to {a c s v : Int} (ha : 0 < a) (h : a * v = c * s) (hs : s ≠ 0) (hb : bt1 s v) : 0 ≤ c ∧ c ≤ a := by
  unfold bt1 at hb
  by_cases h0 : 0 < s
  · have e1 : 0 ≤ c * s := by
      rw [← h]
      exact Int.mul_nonneg (by omega) (by omega)
    have e2 : c * s ≤ a * s := by
      rw [← h]
      exact Int.mul_le_mul_of_nonneg_left (by omega) (by omega)
    exact ⟨Int.nonneg_of_mul_nonneg_left e1 h0, Int.le_of_mul_le_mul_right e2 h0⟩
  · have hn : 0 < -s := by omega
    have e1 : 0 ≤ c * -s := by
      rw [Int.mul_neg, ← h, ← Int.mul_neg]
      exact Int.mul_nonneg (by omega) (by omega)
    have e2 : c * -s ≤ a * -s := by
      rw [Int.mul_neg, Int.mul_neg, ← h, ← Int.mul_neg, ← Int.mul_neg]
      exact Int.mul_le_mul_of_nonneg_left (by omega) (by omega)
    exact ⟨Int.nonneg_of_mul_nonneg_left e1 hn, Int.le_of_mul_le_mul_right e2 hn⟩
/-- between: told by how far along -/
theorem bt0_iff {a c : Int} {s v : Pt} (ha : 0 < a) (h1 : a * v.1 = c * s.1) (h2 : a * v.2 = c * s.2) (hs : s ≠ (0, 0)) : bt0 s v ↔ 0 ≤ c ∧ c ≤ a := by
  constructor
  · rintro ⟨b1, b2⟩
    by_cases e : s.1 = 0
    · have e2 : s.2 ≠ 0 := fun z => hs (Prod.ext e z)
      exact bt1_to ha h2 e2 b2
    · exact bt1_to ha h1 e b1
  · rintro ⟨c0, c1⟩
    exact ⟨bt1_of ha h1 c0 c1, bt1_of ha h2 c0 c1⟩
def shC (s t b : Pt) : Prop :=
  if crs s t = 0 then crs s b = 0 ∧ min (dtp b s) (dtp b s + dtp t s) ≤ dtp s s ∧ 0 ≤ max (dtp b s) (dtp b s + dtp t s)
  else (0 ≤ crs b t * (if crs s t < 0 then -1 else 1) ∧ crs b t * (if crs s t < 0 then -1 else 1) ≤ crs s t * (if crs s t < 0 then -1 else 1)) ∧
    (0 ≤ crs b s * (if crs s t < 0 then -1 else 1) ∧ crs b s * (if crs s t < 0 then -1 else 1) ≤ crs s t * (if crs s t < 0 then -1 else 1))
def toC (s t b : Pt) : Prop := (opp (crs s b) (crs s b + crs s t) ∧ opp (crs b t) (crs b t - crs s t)) ∨ (crs s b = 0 ∧ bt0 s b) ∨ (crs s b + crs s t = 0 ∧ bt0 s (b.1 + t.1, b.2 + t.2)) ∨
  (crs b t = 0 ∧ bt0 t (-b.1, -b.2)) ∨ (crs b t - crs s t = 0 ∧ bt0 t (s.1 - b.1, s.2 - b.2))
theorem mul_pos_iff {x t : Int} (h : 0 < t) : (0 ≤ x * t ∧ x * t ≤ t * t) ↔ 0 ≤ x ∧ x ≤ t :=
  ⟨fun ⟨a, b⟩ => ⟨Int.nonneg_of_mul_nonneg_left a h, Int.le_of_mul_le_mul_right b h⟩, fun ⟨a, b⟩ => ⟨Int.mul_nonneg a (by omega), Int.mul_le_mul_of_nonneg_right b (by omega)⟩⟩
theorem mul_neg_iff {x t : Int} (h : t < 0) : (0 ≤ x * t ∧ x * t ≤ t * t) ↔ x ≤ 0 ∧ t ≤ x := by
  have := mul_pos_iff (x := -x) (t := -t) (by omega)
  rw [Int.neg_mul_neg, Int.neg_mul_neg] at this
  rw [this]
  omega
theorem crs_ex (u v : Pt) : crs u v = u.1 * v.2 - u.2 * v.1 := rfl
theorem sq0 (a : Int) : 0 ≤ a * a := by
  rw [← Int.natAbs_mul_self]
  omega
theorem sqp {a : Int} (h : a ≠ 0) : 0 < a * a := by
  have := sq0 a
  have := Int.mul_ne_zero h h
  omega
theorem dtp_pos {s : Pt} (hs : s ≠ (0, 0)) : 0 < dtp s s := by
  obtain ⟨s1, s2⟩ := s
  simp only [dtp]
  have q1 := sq0 s1
  have q2 := sq0 s2
  by_cases z : s1 = 0
  · have := sqp (a := s2) fun z2 => hs (by rw [z, z2])
    omega
  · have := sqp z
    omega
theorem few_or {C1 C2 T : Int} {P2 P3 P4 P5 : Prop} (hT : 0 < T) (h2 : C1 = 0 → (P2 ↔ 0 ≤ C2 ∧ C2 ≤ T)) (h3 : C1 + T = 0 → (P3 ↔ 0 ≤ C2 ∧ C2 ≤ T)) (h4 : C2 = 0 → (P4 ↔ 0 ≤ -C1 ∧ -C1 ≤ T)) (h5 : C2 - T = 0 → (P5 ↔ 0 ≤ -C1 ∧ -C1 ≤ T)) :
    ((opp C1 (C1 + T) ∧ opp C2 (C2 - T)) ∨ (C1 = 0 ∧ P2) ∨ (C1 + T = 0 ∧ P3) ∨ (C2 = 0 ∧ P4) ∨ (C2 - T = 0 ∧ P5)) ↔ ((0 ≤ C2 ∧ C2 ≤ T) ∧ (0 ≤ -C1 ∧ -C1 ≤ T)) := by
  unfold opp
  constructor
  · rintro (h | ⟨e, h⟩ | ⟨e, h⟩ | ⟨e, h⟩ | ⟨e, h⟩)
    · omega
    · have := (h2 e).mp h
      omega
    · have := (h3 e).mp h
      omega
    · have := (h4 e).mp h
      omega
    · have := (h5 e).mp h
      omega
  · rintro ⟨a, b⟩
    by_cases e2 : C1 = 0
    · exact .inr (.inl ⟨e2, (h2 e2).mpr a⟩)
    by_cases e3 : C1 + T = 0
    · exact .inr (.inr (.inl ⟨e3, (h3 e3).mpr a⟩))
    by_cases e4 : C2 = 0
    · exact .inr (.inr (.inr (.inl ⟨e4, (h4 e4).mpr b⟩)))
    by_cases e5 : C2 - T = 0
    · exact .inr (.inr (.inr (.inr ⟨e5, (h5 e5).mpr b⟩)))
    left
    omega
theorem toC_shC {s t b : Pt} (hs : s ≠ (0, 0)) (ht : t ≠ (0, 0)) : toC s t b ↔ shC s t b := by
  obtain ⟨s1, s2⟩ := s
  obtain ⟨t1, t2⟩ := t
  obtain ⟨b1, b2⟩ := b
  have hN := dtp_pos hs
  have ebs : crs (b1, b2) (s1, s2) = - crs (s1, s2) (b1, b2) := by
    simp only [crs]
    grind
  unfold shC
  by_cases hT : crs (s1, s2) (t1, t2) = 0
  · rw [if_pos hT]
    unfold toC
    rw [hT, Int.add_zero, Int.sub_zero]
    by_cases h1 : crs (s1, s2) (b1, b2) = 0
    · have h2 : crs (b1, b2) (t1, t2) = 0 := by
        have e1 : crs (b1, b2) (t1, t2) * dtp (s1, s2) (s1, s2) = 0 := by
          simp only [crs, dtp] at *
          grind
        rcases Int.mul_eq_zero.mp e1 with z | z
        · exact z
        · omega
      rw [h1, h2]
      have hτ : dtp (t1, t2) (s1, s2) ≠ 0 := fun z => by
        have q1 : dtp (s1, s2) (s1, s2) * t1 = 0 := by
          simp only [crs, dtp] at *
          grind
        have q2 : dtp (s1, s2) (s1, s2) * t2 = 0 := by
          simp only [crs, dtp] at *
          grind
        rcases Int.mul_eq_zero.mp q1 with z1 | z1
        · omega
        rcases Int.mul_eq_zero.mp q2 with z2 | z2
        · omega
        exact ht (by rw [z1, z2])
      have k2 := bt0_iff (s := (s1, s2)) (v := (b1, b2)) (c := dtp (b1, b2) (s1, s2)) hN (by simp only [crs, dtp] at *; grind) (by simp only [crs, dtp] at *; grind) hs
      have k3 := bt0_iff (s := (s1, s2)) (v := (b1 + t1, b2 + t2)) (c := dtp (b1, b2) (s1, s2) + dtp (t1, t2) (s1, s2)) hN (by simp only [crs, dtp] at *; grind) (by simp only [crs, dtp] at *; grind) hs
      have k4 := bt0_iff (s := (t1, t2)) (v := (-b1, -b2)) (a := dtp (t1, t2) (s1, s2) * dtp (t1, t2) (s1, s2)) (c := -dtp (b1, b2) (s1, s2) * dtp (t1, t2) (s1, s2)) (sqp hτ) (by simp only [crs, dtp] at *; grind) (by simp only [crs, dtp] at *; grind) ht
      have k5 := bt0_iff (s := (t1, t2)) (v := (s1 - b1, s2 - b2)) (a := dtp (t1, t2) (s1, s2) * dtp (t1, t2) (s1, s2)) (c := (dtp (s1, s2) (s1, s2) - dtp (b1, b2) (s1, s2)) * dtp (t1, t2) (s1, s2)) (sqp hτ) (by simp only [crs, dtp] at *; grind) (by simp only [crs, dtp] at *; grind) ht
      dsimp only at k2 k3 k4 k5 ⊢
      rw [k2, k3, k4, k5]
      generalize dtp (b1, b2) (s1, s2) = B at *
      generalize dtp (t1, t2) (s1, s2) = τ at *
      generalize dtp (s1, s2) (s1, s2) = N at *
      unfold opp
      by_cases hp : 0 < τ
      · rw [mul_pos_iff hp, mul_pos_iff hp]
        omega
      · rw [mul_neg_iff (show τ < 0 by omega), mul_neg_iff (show τ < 0 by omega)]
        omega
    · have h2 : crs (b1, b2) (t1, t2) ≠ 0 := fun z => by
        have q1 : crs (s1, s2) (b1, b2) * t1 = 0 := by
          simp only [crs] at *
          grind
        have q2 : crs (s1, s2) (b1, b2) * t2 = 0 := by
          simp only [crs] at *
          grind
        rcases Int.mul_eq_zero.mp q1 with z1 | z1
        · exact h1 z1
        rcases Int.mul_eq_zero.mp q2 with z2 | z2
        · exact h1 z2
        exact ht (by rw [z1, z2])
      unfold opp
      constructor
      · rintro (h | h | h | h | h)
        · omega
        · exact absurd h.1 h1
        · exact absurd h.1 h1
        · exact absurd h.1 h2
        · exact absurd h.1 h2
      · rintro ⟨h, _⟩
        exact absurd h h1
  · rw [if_neg hT, ebs]
    unfold toC
    have I1 : crs (s1, s2) (t1, t2) * b1 = crs (b1, b2) (t1, t2) * s1 + crs (s1, s2) (b1, b2) * t1 := by
      simp only [crs]
      grind
    have I2 : crs (s1, s2) (t1, t2) * b2 = crs (b1, b2) (t1, t2) * s2 + crs (s1, s2) (b1, b2) * t2 := by
      simp only [crs]
      grind
    generalize crs (s1, s2) (t1, t2) = T at *
    generalize crs (b1, b2) (t1, t2) = C2 at *
    generalize crs (s1, s2) (b1, b2) = C1 at *
    by_cases hp : 0 < T
    · rw [if_neg (by omega), Int.mul_one, Int.mul_one, Int.mul_one]
      refine few_or hp (fun e => ?_) (fun e => ?_) (fun e => ?_) fun e => ?_
      · exact bt0_iff hp (by dsimp only; grind) (by dsimp only; grind) hs
      · exact bt0_iff hp (by dsimp only; grind) (by dsimp only; grind) hs
      · exact bt0_iff hp (by dsimp only; grind) (by dsimp only; grind) ht
      · exact bt0_iff hp (by dsimp only; grind) (by dsimp only; grind) ht
    · have hn : 0 < -T := by omega
      rw [if_pos (by omega)]
      have k := few_or (C1 := -C1) (C2 := -C2) (P2 := bt0 (s1, s2) (b1, b2)) (P3 := bt0 (s1, s2) (b1 + t1, b2 + t2)) (P4 := bt0 (t1, t2) (-b1, -b2)) (P5 := bt0 (t1, t2) (s1 - b1, s2 - b2)) hn
        (fun e => bt0_iff hn (by dsimp only; grind) (by dsimp only; grind) hs) (fun e => bt0_iff hn (by dsimp only; grind) (by dsimp only; grind) hs)
        (fun e => bt0_iff hn (by dsimp only; grind) (by dsimp only; grind) ht) (fun e => bt0_iff hn (by dsimp only; grind) (by dsimp only; grind) ht)
      unfold opp at k ⊢
      dsimp only at k ⊢
      generalize bt0 (s1, s2) (b1, b2) = P2 at *
      generalize bt0 (s1, s2) (b1 + t1, b2 + t2) = P3 at *
      generalize bt0 (t1, t2) (-b1, -b2) = P4 at *
      generalize bt0 (t1, t2) (s1 - b1, s2 - b2) = P5 at *
      have z1 : (-C1 = 0) = (C1 = 0) := propext (by omega)
      have z2 : (-C1 + -T = 0) = (C1 + T = 0) := propext (by omega)
      have z3 : (-C2 = 0) = (C2 = 0) := propext (by omega)
      have z4 : (-C2 - -T = 0) = (C2 - T = 0) := propext (by omega)
      rw [z1, z2, z3, z4] at k
      constructor
      · intro h
        have := k.mp (h.imp_left fun h => by omega)
        omega
      · intro h
        exact (k.mpr (by omega)).imp_left fun h => by omega

def mn (i j : Int) : Int := if j < i then j else i
def mx (i j : Int) : Int := if j > i then j else i
def bb1 (o p h : Int) : Bool := decide (mn o p ≤ h) && decide (h ≤ mx o p)
def btwB (f s t : Pt) : Bool := bb1 f.1 s.1 t.1 && bb1 f.2 s.2 t.2
def sg3 (f s t : Pt) : Int := sgI (sideI f s t)
def onB (a b c : Pt) : Bool := decide (sg3 a b c = 0) && btwB a b c
def tchB (a b c d : Pt) : Bool := (decide (sg3 a b c * sg3 a b d < 0) && decide (sg3 c d a * sg3 c d b < 0)) || ((onB a b c || onB a b d) || (onB c d a || onB c d b))
def fldB (a b d : Pt) : Bool := decide (sg3 a b d = 0) && !btwB a d b
instance {s t b : Pt} : Decidable (shC s t b) := by
  unfold shC
  infer_instance
def shB (s t b : Pt) : Bool := decide (shC s t b)
def foB (s t : Pt) : Bool := decide (crs s t = 0) && decide (dtp s t < 0)
theorem sgI_zero {x : Int} : sgI x = 0 ↔ x = 0 := by
  unfold sgI
  simp only [decide_eq_true_eq]
  split <;> split <;> omega
theorem sgI_opp {x y : Int} : sgI x * sgI y < 0 ↔ opp x y := by
  unfold sgI opp
  simp only [decide_eq_true_eq]
  rcases Int.lt_trichotomy x 0 with hx | hx | hx <;> rcases Int.lt_trichotomy y 0 with hy | hy | hy
  all_goals
    first | rw [if_neg (show ¬ 0 < x by omega)] | rw [if_pos (show 0 < x by omega)]
    first | rw [if_neg (show ¬ 0 < y by omega)] | rw [if_pos (show 0 < y by omega)]
    first | rw [if_neg (show ¬ x < 0 by omega)] | rw [if_pos (show x < 0 by omega)]
    first | rw [if_neg (show ¬ y < 0 by omega)] | rw [if_pos (show y < 0 by omega)]
    omega
theorem bb1_iff {o p h : Int} : bb1 o p h = true ↔ bt1 (p - o) (h - o) := by
  unfold bb1 bt1 mn mx
  rw [Bool.and_eq_true, decide_eq_true_eq, decide_eq_true_eq]
  split <;> split <;> omega
theorem btwB_iff {f s t : Pt} : btwB f s t = true ↔ bt0 (sbt s f) (sbt t f) := by
  unfold btwB bt0
  rw [Bool.and_eq_true, bb1_iff, bb1_iff]
  rfl
theorem side_crs (f s t : Pt) : sideI f s t = crs (sbt s f) (sbt t f) := rfl
theorem sbt_ne {a b : Pt} (h : a ≠ b) : sbt b a ≠ (0, 0) := fun z => h (by
  unfold sbt at z
  have z1 := congrArg Prod.fst z
  have z2 := congrArg Prod.snd z
  dsimp only at z1 z2
  exact Prod.ext (by omega) (by omega))
theorem tch_sh {a b c d : Pt} (hab : a ≠ b) (hcd : c ≠ d) : tchB a b c d = shB (sbt b a) (sbt d c) (sbt c a) := by
  have key := toC_shC (b := sbt c a) (sbt_ne hab) (sbt_ne hcd)
  have e1 : sideI a b c = crs (sbt b a) (sbt c a) := rfl
  have e2 : sideI a b d = crs (sbt b a) (sbt c a) + crs (sbt b a) (sbt d c) := by
    simp only [sideI, crs, sbt]
    grind
  have e3 : sideI c d a = crs (sbt c a) (sbt d c) := by
    simp only [sideI, crs, sbt]
    grind
  have e4 : sideI c d b = crs (sbt c a) (sbt d c) - crs (sbt b a) (sbt d c) := by
    simp only [sideI, crs, sbt]
    grind
  have v1 : sbt d a = ((sbt c a).1 + (sbt d c).1, (sbt c a).2 + (sbt d c).2) := Prod.ext (by simp only [sbt]; omega) (by simp only [sbt]; omega)
  have v2 : sbt a c = (-(sbt c a).1, -(sbt c a).2) := Prod.ext (by simp only [sbt]; omega) (by simp only [sbt]; omega)
  have v3 : sbt b c = ((sbt b a).1 - (sbt c a).1, (sbt b a).2 - (sbt c a).2) := Prod.ext (by simp only [sbt]; omega) (by simp only [sbt]; omega)
  have on : ∀ x y z : Pt, onB x y z = true ↔ sideI x y z = 0 ∧ bt0 (sbt y x) (sbt z x) := fun x y z => by
    unfold onB sg3
    rw [Bool.and_eq_true, decide_eq_true_eq, sgI_zero, btwB_iff]
  unfold shB
  rw [Bool.eq_iff_iff, decide_eq_true_eq, ← key]
  unfold tchB toC
  rw [Bool.or_eq_true, Bool.or_eq_true, Bool.or_eq_true, Bool.or_eq_true, Bool.and_eq_true, decide_eq_true_eq, decide_eq_true_eq]
  unfold sg3
  rw [sgI_opp, sgI_opp, on, on, on, on, e1, e2, e3, e4, v1, v2, v3]
  constructor
  · rintro (h | (h | h) | (h | h))
    · exact .inl h
    · exact .inr (.inl h)
    · exact .inr (.inr (.inl h))
    · exact .inr (.inr (.inr (.inl h)))
    · exact .inr (.inr (.inr (.inr h)))
  · rintro (h | h | h | h | h)
    · exact .inl h
    · exact .inr (.inl (.inl h))
    · exact .inr (.inl (.inr h))
    · exact .inr (.inr (.inl h))
    · exact .inr (.inr (.inr h))
/-- two edges one behind the other have the place between them in common -/
theorem adj_sh {a b d : Pt} (hab : a ≠ b) (hbd : b ≠ d) : shB (sbt b a) (sbt d b) (sbt b a) = true := by
  rw [← tch_sh hab hbd]
  unfold tchB
  have : onB a b b = true := by
    unfold onB
    rw [Bool.and_eq_true, decide_eq_true_eq, btwB_iff]
    refine ⟨?_, ?_, ?_⟩
    · unfold sg3
      rw [sgI_zero]
      simp only [sideI]
      grind
    · unfold bt1
      omega
    · unfold bt1
      omega
  rw [this]
  simp
theorem fld_fo {a b d : Pt} (hab : a ≠ b) : fldB a b d = foB (sbt b a) (sbt d b) := by
  have hs := sbt_ne hab
  have e1 : sideI a b d = crs (sbt b a) (sbt d b) := by
    simp only [sideI, crs, sbt]
    grind
  have v1 : sbt d a = ((sbt b a).1 + (sbt d b).1, (sbt b a).2 + (sbt d b).2) := Prod.ext (by simp only [sbt]; omega) (by simp only [sbt]; omega)
  have hN := dtp_pos hs
  unfold fldB foB sg3
  rw [e1]
  by_cases h0 : crs (sbt b a) (sbt d b) = 0
  · rw [h0]
    have e0 : decide (sgI 0 = 0) = true := by decide
    rw [e0, decide_eq_true (rfl : (0 : Int) = 0), Bool.true_and, Bool.true_and]
    have hb : btwB a d b = true ↔ bt0 (sbt d a) (sbt b a) := btwB_iff
    rw [v1] at hb
    generalize sbt b a = s at *
    generalize sbt d b = t at *
    obtain ⟨s1, s2⟩ := s
    obtain ⟨t1, t2⟩ := t
    have k1 : dtp (s1, s2) (s1, s2) * t1 = dtp (s1, s2) (t1, t2) * s1 := by
      simp only [crs, dtp] at *
      grind
    have k2 : dtp (s1, s2) (s1, s2) * t2 = dtp (s1, s2) (t1, t2) * s2 := by
      simp only [crs, dtp] at *
      grind
    generalize dtp (s1, s2) (s1, s2) = N at *
    generalize dtp (s1, s2) (t1, t2) = τ at *
    have one : ∀ s t : Int, N * t = τ * s → s ≠ 0 → (bt1 (s + t) s ↔ 0 ≤ τ) := fun s t k hs => by
      unfold bt1
      by_cases hp : 0 < s
      · constructor
        · intro h
          have ht : 0 ≤ t := by omega
          have := Int.mul_nonneg (by omega : 0 ≤ N) ht
          rw [k] at this
          exact Int.nonneg_of_mul_nonneg_left this hp
        · intro h
          have := Int.mul_nonneg h (by omega : 0 ≤ s)
          rw [← k] at this
          have ht := Int.nonneg_of_mul_nonneg_right this hN
          omega
      · have hn : 0 < -s := by omega
        have k' : N * -t = τ * -s := by rw [Int.mul_neg, Int.mul_neg, k]
        constructor
        · intro h
          have ht : 0 ≤ -t := by omega
          have := Int.mul_nonneg (by omega : 0 ≤ N) ht
          rw [k'] at this
          exact Int.nonneg_of_mul_nonneg_left this hn
        · intro h
          have := Int.mul_nonneg h (by omega : 0 ≤ -s)
          rw [← k'] at this
          have ht := Int.nonneg_of_mul_nonneg_right this hN
          omega
    have zero : ∀ s t : Int, N * t = τ * s → s = 0 → bt1 (s + t) s := fun s t k hs => by
      rw [hs, Int.mul_zero] at k
      have : t = 0 := by
        rcases Int.mul_eq_zero.mp k with z | z
        · omega
        · exact z
      unfold bt1
      omega
    have fin : bt0 (s1 + t1, s2 + t2) (s1, s2) ↔ 0 ≤ τ := by
      unfold bt0
      dsimp only
      by_cases z1 : s1 = 0
      · have z2 : s2 ≠ 0 := fun z2 => hs (by rw [z1, z2])
        rw [one s2 t2 k2 z2]
        exact ⟨fun h => h.2, fun h => ⟨zero s1 t1 k1 z1, h⟩⟩
      · rw [one s1 t1 k1 z1]
        by_cases z2 : s2 = 0
        · exact ⟨fun h => h.1, fun h => ⟨h, zero s2 t2 k2 z2⟩⟩
        · rw [one s2 t2 k2 z2]
          exact ⟨fun h => h.1, fun h => ⟨h, h⟩⟩
    dsimp only at hb
    rw [fin] at hb
    by_cases h : 0 ≤ τ
    · rw [hb.mpr h, decide_eq_false (by omega)]
      rfl
    · rw [Bool.eq_false_iff.mpr fun q => h (hb.mp q), decide_eq_true (by omega)]
      rfl
  · rw [decide_eq_false (fun q => h0 (sgI_zero.mp q)), decide_eq_false h0, Bool.false_and, Bool.false_and]
/-! ### grown and moved -/
structure Aff (B c : Int) (t : Pt) (p q : Pt) : Prop where
  x : B * q.1 = c * (p.1 + t.1)
  y : B * q.2 = c * (p.2 + t.2)
theorem aff_le {B c t x y x' y' : Int} (hB : 0 < B) (hc : 0 < c) (h1 : B * x' = c * (x + t)) (h2 : B * y' = c * (y + t)) : x' ≤ y' ↔ x ≤ y := by
  constructor
  · intro h
    have := Int.mul_le_mul_of_nonneg_left h (by omega : 0 ≤ B)
    rw [h1, h2] at this
    have := Int.le_of_mul_le_mul_left this hc
    omega
  · intro h
    have : c * (x + t) ≤ c * (y + t) := Int.mul_le_mul_of_nonneg_left (by omega) (by omega)
    rw [← h1, ← h2] at this
    exact Int.le_of_mul_le_mul_left this hB
theorem aff_bb1 {B c t o p h o' p' h' : Int} (hB : 0 < B) (hc : 0 < c) (h1 : B * o' = c * (o + t)) (h2 : B * p' = c * (p + t)) (h3 : B * h' = c * (h + t)) : bb1 o' p' h' = bb1 o p h := by
  have k1 := aff_le hB hc h1 h2
  have k2 := aff_le hB hc h2 h1
  have k3 := aff_le hB hc h1 h3
  have k4 := aff_le hB hc h3 h1
  have k5 := aff_le hB hc h2 h3
  have k6 := aff_le hB hc h3 h2
  unfold bb1 mn mx
  rw [Bool.eq_iff_iff, Bool.and_eq_true, Bool.and_eq_true, decide_eq_true_eq, decide_eq_true_eq, decide_eq_true_eq, decide_eq_true_eq]
  split <;> split <;> split <;> split <;> omega
theorem Aff.inj {B c : Int} {t p p' q : Pt} (hc : 0 < c) (h : Aff B c t p q) (h' : Aff B c t p' q) : p = p' := by
  have e1 := h.x.symm.trans h'.x
  have e2 := h.y.symm.trans h'.y
  have k1 := Int.eq_of_mul_eq_mul_left (by omega : c ≠ 0) e1
  have k2 := Int.eq_of_mul_eq_mul_left (by omega : c ≠ 0) e2
  exact Prod.ext (by omega) (by omega)
theorem aff_sg {B c : Int} {t a b d a' b' d' : Pt} (hB : 0 < B) (hc : 0 < c) (ha : Aff B c t a a') (hb : Aff B c t b b') (hd : Aff B c t d d') : sg3 a' b' d' = sg3 a b d := by
  unfold sg3
  refine sgI_of (c := B * B) (d := c * c) (Int.mul_pos hB hB) (Int.mul_pos hc hc) ?_
  obtain ⟨a1, a2⟩ := ha
  obtain ⟨b1, b2⟩ := hb
  obtain ⟨d1, d2⟩ := hd
  have u1 : B * (b'.1 - a'.1) = c * (b.1 - a.1) := by rw [Int.mul_sub, b1, a1]; grind
  have u2 : B * (d'.2 - a'.2) = c * (d.2 - a.2) := by rw [Int.mul_sub, d2, a2]; grind
  have u3 : B * (b'.2 - a'.2) = c * (b.2 - a.2) := by rw [Int.mul_sub, b2, a2]; grind
  have u4 : B * (d'.1 - a'.1) = c * (d.1 - a.1) := by rw [Int.mul_sub, d1, a1]; grind
  unfold sideI
  have m1 : B * B * ((b'.1 - a'.1) * (d'.2 - a'.2)) = c * c * ((b.1 - a.1) * (d.2 - a.2)) := by
    have : B * B * ((b'.1 - a'.1) * (d'.2 - a'.2)) = (B * (b'.1 - a'.1)) * (B * (d'.2 - a'.2)) := by grind
    rw [this, u1, u2]
    grind
  have m2 : B * B * ((b'.2 - a'.2) * (d'.1 - a'.1)) = c * c * ((b.2 - a.2) * (d.1 - a.1)) := by
    have : B * B * ((b'.2 - a'.2) * (d'.1 - a'.1)) = (B * (b'.2 - a'.2)) * (B * (d'.1 - a'.1)) := by grind
    rw [this, u3, u4]
    grind
  rw [Int.mul_sub (B * B), m1, m2, ← Int.mul_sub (c * c)]
theorem aff_btw {B c : Int} {t a b d a' b' d' : Pt} (hB : 0 < B) (hc : 0 < c) (ha : Aff B c t a a') (hb : Aff B c t b b') (hd : Aff B c t d d') : btwB a' b' d' = btwB a b d := by
  unfold btwB
  rw [aff_bb1 hB hc ha.x hb.x hd.x, aff_bb1 hB hc ha.y hb.y hd.y]
theorem aff_tch {B c : Int} {t p q r s p' q' r' s' : Pt} (hB : 0 < B) (hc : 0 < c) (hp : Aff B c t p p') (hq : Aff B c t q q') (hr : Aff B c t r r') (hs : Aff B c t s s') : tchB p' q' r' s' = tchB p q r s := by
  unfold tchB onB
  rw [aff_sg hB hc hp hq hr, aff_sg hB hc hp hq hs, aff_sg hB hc hr hs hp, aff_sg hB hc hr hs hq, aff_btw hB hc hp hq hr, aff_btw hB hc hp hq hs, aff_btw hB hc hr hs hp, aff_btw hB hc hr hs hq]
theorem aff_fld {B c : Int} {t p q r p' q' r' : Pt} (hB : 0 < B) (hc : 0 < c) (hp : Aff B c t p p') (hq : Aff B c t q q') (hr : Aff B c t r r') : fldB p' q' r' = fldB p q r := by
  unfold fldB
  rw [aff_sg hB hc hp hq hr, aff_btw hB hc hp hr hq]

/-! ### the edges of a length -/
def eds (f : Pt) : Nat → List Pt → List (Nat × Pt × Pt)
  | _, [] => []
  | i, x :: r => if r.headD f ≠ x then (i, x, r.headD f) :: eds f (i + 1) r else eds f (i + 1) r
def Chn : Pt → List (Nat × Pt × Pt) → Pt → Prop
  | x, [], z => x = z
  | x, e :: L, z => e.2.1 = x ∧ Chn e.2.2 L z
theorem eds_chn {f : Pt} : ∀ (r : List Pt) (i : Nat), Chn (r.headD f) (eds f i r) f
  | [], _ => rfl
  | x :: r, i => by
    have ih := eds_chn (f := f) r (i + 1)
    show Chn x (if r.headD f ≠ x then (i, x, r.headD f) :: eds f (i + 1) r else eds f (i + 1) r) f
    by_cases h : r.headD f ≠ x
    · rw [if_pos h]
      exact ⟨rfl, ih⟩
    · rw [if_neg h]
      have e : r.headD f = x := Decidable.byContradiction h
      rw [e] at ih
      exact ih
theorem eds_ne {f : Pt} : ∀ (r : List Pt) (i : Nat), ∀ e ∈ eds f i r, e.2.1 ≠ e.2.2
  | [], _, e, h => by simp [eds] at h
  | x :: r, i, e, h => by
    have h' : e ∈ (if r.headD f ≠ x then (i, x, r.headD f) :: eds f (i + 1) r else eds f (i + 1) r) := h
    by_cases q : r.headD f ≠ x
    · rw [if_pos q] at h'
      rcases List.mem_cons.mp h' with z | z
      · rw [z]
        exact fun w => q w.symm
      · exact eds_ne r (i + 1) e z
    · rw [if_neg q] at h'
      exact eds_ne r (i + 1) e h'
theorem Chn.next : ∀ {L : List (Nat × Pt × Pt)} {x z : Pt} {k : Nat} {e o : Nat × Pt × Pt}, Chn x L z → L[k]? = some e → L[k + 1]? = some o → o.2.1 = e.2.2
  | [], _, _, _, _, _, _, h, _ => by simp at h
  | e' :: [], _, _, 0, _, _, _, _, h => by simp at h
  | e' :: o' :: L, _, _, 0, _, _, c, h, h' => by
    cases h
    cases h'
    exact c.2.1
  | e' :: L, _, _, k + 1, _, _, c, h, h' => Chn.next (L := L) c.2 h h'
theorem Chn.first {L : List (Nat × Pt × Pt)} {x z : Pt} {e : Nat × Pt × Pt} (c : Chn x L z) (h : L[0]? = some e) : e.2.1 = x := by
  cases L with
  | nil => simp at h
  | cons e' L =>
    cases h
    exact c.1
theorem Chn.last : ∀ {L : List (Nat × Pt × Pt)} {x z : Pt} {k : Nat} {e : Nat × Pt × Pt}, Chn x L z → L[k]? = some e → k + 1 = L.length → e.2.2 = z
  | [], _, _, _, _, _, h, _ => by simp at h
  | e' :: [], _, _, 0, _, c, h, _ => by
    cases h
    exact c.2
  | e' :: [], _, _, k + 1, _, _, h, _ => by simp at h
  | e' :: o :: L, _, _, 0, _, _, _, h => by simp at h
  | e' :: o :: L, _, _, k + 1, _, c, h, hl => Chn.last (L := o :: L) c.2 h (by simpa using hl)
structure Ed where
  g : Nat
  k : Nat
  m : Nat
  at' : Nat
  a : Pt
  b : Pt
def mkE (g m : Nat) (e : (Nat × Pt × Pt) × Nat) : Ed := ⟨g, e.2, m, e.1.1, e.1.2.1, e.1.2.2⟩
def edOf (g : Nat) (ps : List Pt) : List (Nat × Pt × Pt) := eds (ps.headD (0, 0)) 0 ps
def edRow (g : Nat) (ps : List Pt) : List Ed := (edOf g ps).zipIdx.map (mkE g (edOf g ps).length)
def allE : Nat → List (List Pt) → List Ed
  | _, [] => []
  | g, ps :: r => edRow g ps ++ allE (g + 1) r
structure Gd (e o : Ed) : Prop where
  ne : e.a ≠ e.b
  no : o.a ≠ o.b
  m : e.g = o.g → e.m = o.m ∧ e.k < o.k ∧ o.k < e.m
  nx : e.g = o.g → o.k = e.k + 1 → o.a = e.b
  lst : e.g = o.g → e.k = 0 → o.k + 1 = e.m → o.b = e.a
theorem row_get {g : Nat} {ps : List Pt} {i : Nat} {e : Ed} (h : (edRow g ps)[i]? = some e) : e.g = g ∧ e.k = i ∧ e.m = (edOf g ps).length ∧ (edOf g ps)[i]? = some (e.at', e.a, e.b) := by
  unfold edRow at h
  rw [List.getElem?_map, List.getElem?_zipIdx, Option.map_map, Option.map_eq_some_iff] at h
  obtain ⟨x, hx, rfl⟩ := h
  refine ⟨rfl, Nat.zero_add i, rfl, hx⟩
theorem head_chn (g : Nat) (ps : List Pt) : Chn (ps.headD (0, 0)) (edOf g ps) (ps.headD (0, 0)) := by
  unfold edOf
  have := eds_chn (f := ps.headD (0, 0)) ps 0
  cases ps with
  | nil => rfl
  | cons x r => exact this
theorem row_pw (g : Nat) (ps : List Pt) : (edRow g ps).Pairwise Gd := by
  rw [List.pairwise_iff_getElem]
  intro i j hi hj hij
  obtain ⟨a1, a2, a3, a4⟩ := row_get (List.getElem?_eq_getElem hi)
  obtain ⟨b1, b2, b3, b4⟩ := row_get (List.getElem?_eq_getElem hj)
  generalize (edRow g ps)[i] = e at a1 a2 a3 a4
  generalize (edRow g ps)[j] = o at b1 b2 b3 b4
  have hjl := (List.getElem?_eq_some_iff.mp b4).1
  have c := head_chn g ps
  refine ⟨eds_ne _ _ _ (List.mem_of_getElem? a4), eds_ne _ _ _ (List.mem_of_getElem? b4), fun _ => ⟨by rw [a3, b3], by omega, by omega⟩, fun _ h => ?_, fun _ h0 h => ?_⟩
  · rw [a2, b2] at h
    subst h
    exact c.next a4 b4
  · rw [a2] at h0
    subst h0
    rw [b2, a3] at h
    exact (c.last b4 h).trans (c.first a4).symm
theorem allE_g : ∀ (rows : List (List Pt)) (g : Nat), ∀ e ∈ allE g rows, g ≤ e.g ∧ e.a ≠ e.b
  | [], _, e, h => by simp [allE] at h
  | ps :: r, g, e, h => by
    rcases List.mem_append.mp h with z | z
    · obtain ⟨i, hi⟩ := List.mem_iff_getElem?.mp z
      obtain ⟨a1, _, _, a4⟩ := row_get hi
      exact ⟨by omega, eds_ne _ _ _ (List.mem_of_getElem? a4)⟩
    · have := allE_g r (g + 1) e z
      exact ⟨by omega, this.2⟩
theorem allE_pw : ∀ (rows : List (List Pt)) (g : Nat), (allE g rows).Pairwise Gd
  | [], _ => .nil
  | ps :: r, g => by
    show (edRow g ps ++ allE (g + 1) r).Pairwise Gd
    refine List.pairwise_append.mpr ⟨row_pw g ps, allE_pw r (g + 1), fun e he o ho => ?_⟩
    obtain ⟨i, hi⟩ := List.mem_iff_getElem?.mp he
    obtain ⟨a1, _, _, a4⟩ := row_get hi
    have h2 := allE_g r (g + 1) o ho
    have hg : e.g ≠ o.g := by omega
    exact ⟨eds_ne _ _ _ (List.mem_of_getElem? a4), h2.2, fun h => absurd h hg, fun h => absurd h hg, fun h => absurd h hg⟩
/-! ### the first two that are bad -/
def fstBad (R : Ed → Ed → Bool) : List Ed → Option (Ed × Ed)
  | [] => none
  | e :: r => match r.find? (R e) with
    | some o => some (e, o)
    | none => fstBad R r
theorem fstBad_congr {R S : Ed → Ed → Bool} : ∀ {L : List Ed}, L.Pairwise Gd → (∀ e o, Gd e o → R e o = S e o) → fstBad R L = fstBad S L
  | [], _, _ => rfl
  | e :: r, h, q => by
    rw [List.pairwise_cons] at h
    have e1 : r.find? (R e) = r.find? (S e) := by
      have : ∀ l : List Ed, (∀ o ∈ l, R e o = S e o) → l.find? (R e) = l.find? (S e) := fun l => by
        induction l with
        | nil => intro _; rfl
        | cons o l ih =>
          intro hl
          rw [List.find?_cons, List.find?_cons, hl o List.mem_cons_self, ih fun o' ho => hl o' (List.mem_cons_of_mem _ ho)]
      exact this r fun o ho => q e o (h.1 o ho)
    unfold fstBad
    rw [e1, fstBad_congr h.2 q]
/-- as the program looks -/
def R1 (sc : Pt → Pt) (e o : Ed) : Bool :=
  if e.g = o.g ∧ e.m = 2 then true
  else if e.g = o.g ∧ o.k = e.k + 1 then fldB (sc e.a) (sc e.b) (sc o.b)
  else if e.g = o.g ∧ e.k = 0 ∧ o.k + 1 = e.m then fldB (sc o.a) (sc o.b) (sc e.b)
  else tchB (sc e.a) (sc e.b) (sc o.a) (sc o.b)
/-- as the law looks -/
def stp (e : Ed) : Pt := sbt e.b e.a
def R2 (e o : Ed) : Bool :=
  if e.g = o.g ∧ 2 < e.m ∧ o.k = e.k + 1 then foB (stp e) (stp o)
  else if e.g = o.g ∧ 2 < e.m ∧ e.k = 0 ∧ o.k + 1 = e.m then foB (stp o) (stp e)
  else shB (stp e) (stp o) (sbt o.a e.a)
theorem R12 {B c : Int} {t : Pt} {sc : Pt → Pt} (hB : 0 < B) (hc : 0 < c) {e o : Ed} (G : Gd e o) (h1 : Aff B c t e.a (sc e.a)) (h2 : Aff B c t e.b (sc e.b)) (h3 : Aff B c t o.a (sc o.a)) (h4 : Aff B c t o.b (sc o.b)) : R1 sc e o = R2 e o := by
  obtain ⟨ne, no, hm, nx, lst⟩ := G
  unfold R1 R2 stp
  rw [aff_tch hB hc h1 h2 h3 h4, aff_fld hB hc h1 h2 h4, aff_fld hB hc h3 h4 h2]
  by_cases hg : e.g = o.g
  · obtain ⟨m1, m2, m3⟩ := hm hg
    have nx := nx hg
    have lst := lst hg
    by_cases h2' : e.m = 2
    · have k1 : o.k = e.k + 1 := by omega
      rw [if_pos (show e.g = o.g ∧ e.m = 2 from ⟨hg, h2'⟩), if_neg (show ¬(e.g = o.g ∧ 2 < e.m ∧ o.k = e.k + 1) by omega), if_neg (show ¬(e.g = o.g ∧ 2 < e.m ∧ e.k = 0 ∧ o.k + 1 = e.m) by omega)]
      have := nx k1
      rw [this]
      have hb : e.b ≠ o.b := fun z => no (this.trans z)
      exact (adj_sh ne hb).symm
    · rw [if_neg (show ¬(e.g = o.g ∧ e.m = 2) by omega)]
      by_cases k1 : o.k = e.k + 1
      · rw [if_pos (show e.g = o.g ∧ o.k = e.k + 1 from ⟨hg, k1⟩), if_pos (show e.g = o.g ∧ 2 < e.m ∧ o.k = e.k + 1 from ⟨hg, by omega, k1⟩), fld_fo ne, nx k1]
      · rw [if_neg (show ¬(e.g = o.g ∧ o.k = e.k + 1) from fun z => k1 z.2), if_neg (show ¬(e.g = o.g ∧ 2 < e.m ∧ o.k = e.k + 1) from fun z => k1 z.2.2)]
        by_cases k2 : e.k = 0 ∧ o.k + 1 = e.m
        · rw [if_pos (show e.g = o.g ∧ e.k = 0 ∧ o.k + 1 = e.m from ⟨hg, k2⟩), if_pos (show e.g = o.g ∧ 2 < e.m ∧ e.k = 0 ∧ o.k + 1 = e.m from ⟨hg, by omega, k2⟩), fld_fo no, lst k2.1 k2.2]
        · rw [if_neg (show ¬(e.g = o.g ∧ e.k = 0 ∧ o.k + 1 = e.m) from fun z => k2 z.2), if_neg (show ¬(e.g = o.g ∧ 2 < e.m ∧ e.k = 0 ∧ o.k + 1 = e.m) from fun z => k2 z.2.2), tch_sh ne no]
  · rw [if_neg (show ¬(e.g = o.g ∧ e.m = 2) from fun z => hg z.1), if_neg (show ¬(e.g = o.g ∧ o.k = e.k + 1) from fun z => hg z.1), if_neg (show ¬(e.g = o.g ∧ e.k = 0 ∧ o.k + 1 = e.m) from fun z => hg z.1),
      if_neg (show ¬(e.g = o.g ∧ 2 < e.m ∧ o.k = e.k + 1) from fun z => hg z.1), if_neg (show ¬(e.g = o.g ∧ 2 < e.m ∧ e.k = 0 ∧ o.k + 1 = e.m) from fun z => hg z.1), tch_sh ne no]
/-! ### grown edges -/
theorem eds_map {sc : Pt → Pt} (inj : ∀ p q, sc p = sc q → p = q) {f : Pt} : ∀ (r : List Pt) (i : Nat), eds (sc f) i (r.map sc) = (eds f i r).map fun e => (e.1, sc e.2.1, sc e.2.2)
  | [], _ => rfl
  | x :: r, i => by
    have hh : (r.map sc).headD (sc f) = sc (r.headD f) := by cases r <;> rfl
    show (if (r.map sc).headD (sc f) ≠ sc x then (i, sc x, (r.map sc).headD (sc f)) :: eds (sc f) (i + 1) (r.map sc) else eds (sc f) (i + 1) (r.map sc)) = (if r.headD f ≠ x then (i, x, r.headD f) :: eds f (i + 1) r else eds f (i + 1) r).map _
    rw [hh, eds_map inj r (i + 1)]
    by_cases h : r.headD f = x
    · rw [if_neg (show ¬(sc (r.headD f) ≠ sc x) from fun z => z (by rw [h])), if_neg (show ¬(r.headD f ≠ x) from fun z => z h)]
    · rw [if_pos (show sc (r.headD f) ≠ sc x from fun z => h (inj _ _ z)), if_pos (show r.headD f ≠ x from h)]
      rfl



section
variable {κ : Kap} {X : Str → List D → Kap → Prop} {Q : DQ}
theorem sign_q {s : Int} (h : Q (.int (sgI s)) κ) : sp_sign_of [.int s] κ X Q := by
  (unfold sp_sign_of; refine s_sp rfl ?_; simp only [startD, List.map_cons, List.map_nil, List.length_cons, List.length_nil, Nat.zero_add, Nat.reduceAdd, Nat.reduceSub, List.replicate, List.cons_append, List.nil_append]; unfold b_sign_of)
  (repeat walk_at "st")
  exact h
theorem if_y {p : Prop} {_ : Decidable p} {A B : Prop} (hp : p) (h : A) : if p then A else B := by
  rw [if_pos hp]
  exact h
theorem if_n {p : Prop} {_ : Decidable p} {A B : Prop} (hp : ¬p) (h : B) : if p then A else B := by
  rw [if_neg hp]
  exact h
theorem i_zip {as : DA} {δ : DEnv} {κ : Kap} {X : DX} {QI : List D → (Kap → Prop) → Kap → Prop} (h : as δ κ X (zQ QI)) : iZipD as δ κ X QI := h
theorem gd_node {k : Kd} {ys : List D} {κ' : Kap} : view (.node k ys) κ' = view (.node k ys) κ := rfl
theorem zq_3 {QI : List D → (Kap → Prop) → Kap → Prop} {a1 a2 b1 b2 c1 c2 : D} (h : ∀ gd : Kap → Prop, (∀ κ', gd κ') → QI [.node .tup [a1, b1, c1], .node .tup [a2, b2, c2]] gd κ) : zQ QI [.node .tup [a1, a2], .node .tup [b1, b2], .node .tup [c1, c2]] κ := by
  refine ⟨.inr rfl, [(.tup, false), (.tup, false), (.tup, false)], [[a1, a2], [b1, b2], [c1, c2]], 2, rfl, rfl, ?_, ⟨_, List.mem_cons_self, rfl⟩, h _ ?_⟩
  · intro j x hx
    match j, hx with
    | 0, hx => cases hx; exact ⟨_, _, _, rfl, rfl, rfl, Nat.le_refl _, rfl⟩
    | 1, hx => cases hx; exact ⟨_, _, _, rfl, rfl, rfl, Nat.le_refl _, rfl⟩
    | 2, hx => cases hx; exact ⟨_, _, _, rfl, rfl, rfl, Nat.le_refl _, rfl⟩
    | j + 3, hx => simp at hx
  · intro κ' j x hx
    match j, hx with
    | 0, hx => cases hx; rfl
    | 1, hx => cases hx; rfl
    | 2, hx => cases hx; rfl
    | j + 3, hx => simp at hx
theorem zq_2 {QI : List D → (Kap → Prop) → Kap → Prop} {a1 a2 b1 b2 : D} (h : ∀ gd : Kap → Prop, (∀ κ', gd κ') → QI [.node .tup [a1, b1], .node .tup [a2, b2]] gd κ) : zQ QI [.node .lst [a1, a2], .node .tup [b1, b2]] κ := by
  refine ⟨.inl rfl, [(.lst, true), (.tup, false)], [[a1, a2], [b1, b2]], 2, rfl, rfl, ?_, ⟨_, List.mem_cons_self, rfl⟩, h _ ?_⟩
  · intro j x hx
    match j, hx with
    | 0, hx => cases hx; exact ⟨_, _, _, rfl, rfl, rfl, Nat.le_refl _, rfl⟩
    | 1, hx => cases hx; exact ⟨_, _, _, rfl, rfl, rfl, Nat.le_refl _, rfl⟩
    | j + 2, hx => simp at hx
  · intro κ' j x hx
    match j, hx with
    | 0, hx => cases hx; rfl
    | 1, hx => cases hx; rfl
    | j + 2, hx => simp at hx
/-- a chain of two comparisons -/
theorem ch_bb {o p h : Int} {Q' : DQ} (hq : Q' (.bl (bb1 o p h)) κ) : (∃ k, D.bl (decide (mn o p ≤ h)) = .bl k ∧ if k = true then Q' (.bl (decide (h ≤ mx o p))) κ else Q' (.bl false) κ) := by
  refine ⟨_, rfl, ?_⟩
  unfold bb1 at hq
  by_cases e : mn o p ≤ h
  · rw [decide_eq_true e, Bool.true_and] at hq
    rw [decide_eq_true e, if_pos rfl]
    exact hq
  · rw [decide_eq_false e, Bool.false_and] at hq
    rw [decide_eq_false e, if_neg (by decide)]
    exact hq
theorem betw_q {a b c : Pt} (h : ∀ κ', Fa κ κ' → Q (.bl (btwB a b c)) κ') : sp_is_between [prD a, prD b, prD c] κ X Q := by
  (unfold sp_is_between; refine s_sp rfl ?_; simp only [startD, List.map_cons, List.map_nil, List.length_cons, List.length_nil, Nat.zero_add, Nat.reduceAdd, Nat.reduceSub, List.replicate, List.cons_append, List.nil_append]; unfold b_is_between)
  (repeat walk_at "st")
  refine i_zip ?_
  (repeat walk_at "st")
  unfold prD
  refine zq_3 fun gd hgd => ?_
  intro n hn
  refine ⟨hgd _, ?_⟩
  rw [bi_inr rfl]
  simp only [dwipe, List.set_cons_zero, List.set_cons_succ]
  (repeat walk_at "st")
  have fin : ∀ (x y : Bool) κ', x = bb1 a.1 b.1 c.1 → y = bb1 a.2 b.2 c.2 → Fa κ κ' → fAllB [.node .lst [.bl x, .bl y]] κ' Q := fun x y κ' e1 e2 f => by
    refine ⟨[x, y], rfl, ?_⟩
    have := h κ' f
    unfold btwB at this
    rw [← e1, ← e2] at this
    rw [show [x, y].all id = (x && y) by simp]
    exact this
  have f1 : ∀ L, Fa κ (kset κ n L) := fun L => Fa.new hn
  by_cases e1 : mn a.1 b.1 ≤ c.1
  all_goals
    first
    | (refine if_y (show decide (mn a.1 b.1 ≤ c.1) = true from decide_eq_true e1) ?_; (repeat walk_at "st"))
    | refine if_n (show ¬ decide (mn a.1 b.1 ≤ c.1) = true from by rw [decide_eq_false e1]; decide) ?_
    refine ⟨kset_same, by decide, ?_⟩
    refine ⟨hgd _, ?_⟩
    rw [bi_inr rfl]
    simp only [dwipe, List.set_cons_zero, List.set_cons_succ]
    (repeat walk_at "st")
    by_cases e2 : mn a.2 b.2 ≤ c.2
    all_goals
      first
      | (refine if_y (show decide (mn a.2 b.2 ≤ c.2) = true from decide_eq_true e2) ?_; (repeat walk_at "st"))
      | refine if_n (show ¬ decide (mn a.2 b.2 ≤ c.2) = true from by rw [decide_eq_false e2]; decide) ?_
      refine ⟨kset_same, by unfold sizeLine; simp, hgd _, kset_same, ?_⟩
      refine e_nil ?_
      simp only [List.nil_append, List.cons_append, kset_kset]
      refine fin _ _ _ ?_ ?_ (f1 _)
      · unfold bb1
        first
        | rw [decide_eq_true e1]; rfl
        | rw [decide_eq_false e1]; rfl
      · unfold bb1
        first
        | rw [decide_eq_true e2]; rfl
        | rw [decide_eq_false e2]; rfl
theorem side_q {a b c : Pt} (ha : a.1.natAbs < 2 ^ 300 ∧ a.2.natAbs < 2 ^ 300) (hb : b.1.natAbs < 2 ^ 300 ∧ b.2.natAbs < 2 ^ 300) (hc : c.1.natAbs < 2 ^ 300 ∧ c.2.natAbs < 2 ^ 300) (h : Q (.int (sg3 a b c)) κ) : sp_side_of [prD a, prD b, prD c] κ X Q := by
  (unfold sp_side_of; refine s_sp rfl ?_; simp only [startD, List.map_cons, List.map_nil, List.length_cons, List.length_nil, Nat.zero_add, Nat.reduceAdd, Nat.reduceSub, List.replicate, List.cons_append, List.nil_append]; unfold b_side_of)
  unfold prD
  (repeat walk_at "st")
  refine f_mul (cmul_of 301 301 (by omega) (by omega) (by decide)) ?_
  (repeat walk_at "st")
  refine f_mul (cmul_of 301 301 (by omega) (by omega) (by decide)) ?_
  (repeat walk_at "st")
  exact sign_q h
def Bg (p : Pt) : Prop := p.1.natAbs < 2 ^ 300 ∧ p.2.natAbs < 2 ^ 300
def edD (a b : Pt) : D := .node .tup [prD a, prD b]
theorem fold_q {a b c d : Pt} (ha : Bg a) (hb : Bg b) (hd : Bg d) (h : ∀ κ', Fa κ κ' → Q (.bl (fldB a b d)) κ') : sp_do_fold [edD a b, edD c d] κ X Q := by
  (unfold sp_do_fold; refine s_sp rfl ?_; simp only [startD, List.map_cons, List.map_nil, List.length_cons, List.length_nil, Nat.zero_add, Nat.reduceAdd, Nat.reduceSub, List.replicate, List.cons_append, List.nil_append]; unfold b_do_fold)
  unfold edD
  (repeat walk_at "st")
  refine side_q ha hb hd ?_
  (repeat walk_at "st")
  refine i_d (fun e => ?_) fun e => ?_
  · (repeat walk_at "st")
    refine betw_q fun κ' f => ?_
    have := h κ' f
    unfold fldB at this
    rw [decide_eq_true e, Bool.true_and] at this
    (repeat walk_at "st")
    exact this
  · (repeat walk_at "st")
    have := h κ Fa.refl
    unfold fldB at this
    rw [decide_eq_false e, Bool.false_and] at this
    exact this
theorem sg_sm (s : Int) : (sgI s).natAbs < 2 ^ 2 := by
  unfold sgI
  simp only [decide_eq_true_eq]
  split <;> split <;> omega
theorem and_q {a b : DE} {δ : DEnv} {X : DX} {x y : Bool} (ha : ∀ Q' : DQ, Q' (.bl x) κ → a δ κ X Q') (hb : ∀ Q' : DQ, (∀ κ', Fa κ κ' → Q' (.bl y) κ') → b δ κ X Q') (h : ∀ κ', Fa κ κ' → Q (.bl (x && y)) κ') : dAnd a b δ κ X Q := by
  refine e_and (ha _ ?_)
  refine w_bl ?_
  cases x with
  | false =>
    rw [if_neg (by decide)]
    exact h κ Fa.refl
  | true =>
    rw [if_pos rfl]
    exact hb _ fun κ' f => h κ' f
theorem tand_q {a b : DT} {δ : DEnv} {X : DX} {x y : Bool} {P : Bool → Kap → Prop} (ha : ∀ P' : Bool → Kap → Prop, P' x κ → a δ κ X P') (hb : ∀ P' : Bool → Kap → Prop, P' y κ → b δ κ X P') (h : P (x && y) κ) : tAndD a b δ κ X P := by
  refine t_and (ha _ ?_)
  cases x with
  | false =>
    rw [if_neg (by decide)]
    exact h
  | true =>
    rw [if_pos rfl]
    exact hb _ h
theorem touch_q {a b c d : Pt} (ha : Bg a) (hb : Bg b) (hc : Bg c) (hd : Bg d) (h : ∀ κ', Fa κ κ' → Q (.bl (tchB a b c d)) κ') : sp_do_touch [edD a b, edD c d] κ X Q := by
  (unfold sp_do_touch; refine s_sp rfl ?_; simp only [startD, List.map_cons, List.map_nil, List.length_cons, List.length_nil, Nat.zero_add, Nat.reduceAdd, Nat.reduceSub, List.replicate, List.cons_append, List.nil_append]; unfold b_do_touch)
  unfold edD
  (repeat walk_at "st")
  intro n1 hn1
  refine ⟨trivial, ?_⟩
  rw [bi_inl]
  simp only [dwipe, List.set_cons_zero, List.set_cons_succ]
  (repeat walk_at "st")
  refine side_q ha hb hc ?_
  refine ⟨kset_same, by unfold sizeLine; simp, trivial, ?_⟩
  rw [bi_inl]
  simp only [dwipe, List.set_cons_zero, List.set_cons_succ]
  (repeat walk_at "st")
  refine side_q ha hb hd ?_
  refine ⟨kset_same, by unfold sizeLine; simp, trivial, kset_same, ?_⟩
  simp only [List.nil_append, List.cons_append, kset_kset]
  have f1 : Fa κ (kset κ n1 .dead) := Fa.new hn1
  generalize kset κ n1 .dead = κ1 at f1
  (repeat walk_at "st")
  intro n2 hn2
  refine ⟨trivial, ?_⟩
  rw [bi_inl]
  simp only [dwipe, List.set_cons_zero, List.set_cons_succ]
  (repeat walk_at "st")
  refine side_q hc hd ha ?_
  refine ⟨kset_same, by unfold sizeLine; simp, trivial, ?_⟩
  rw [bi_inl]
  simp only [dwipe, List.set_cons_zero, List.set_cons_succ]
  (repeat walk_at "st")
  refine side_q hc hd hb ?_
  refine ⟨kset_same, by unfold sizeLine; simp, trivial, kset_same, ?_⟩
  simp only [List.nil_append, List.cons_append, kset_kset]
  have f2 : Fa κ (kset κ1 n2 .dead) := f1.trans (Fa.new hn2)
  generalize kset κ1 n2 .dead = κ2 at f2
  refine s_seq ?_
  refine s_if ?_
  refine tand_q (x := decide (sg3 a b c * sg3 a b d < 0)) (y := decide (sg3 c d a * sg3 c d b < 0)) (fun P' hp => ?_) (fun P' hp => ?_) ?_
  · (repeat walk_at "st")
    refine f_mul (cmul_of 2 2 (sg_sm _) (sg_sm _) (by decide)) ?_
    (repeat walk_at "st")
    exact hp
  · (repeat walk_at "st")
    refine f_mul (cmul_of 2 2 (sg_sm _) (sg_sm _) (by decide)) ?_
    (repeat walk_at "st")
    exact hp
  unfold tchB at h
  generalize (decide (sg3 a b c * sg3 a b d < 0) && decide (sg3 c d a * sg3 c d b < 0)) = z at h
  cases z with
  | true =>
    (repeat walk_at "st")
    exact h κ2 f2
  | false =>
  (repeat walk_at "st")
  refine i_zip ?_
  (repeat walk_at "st")
  refine zq_2 fun gdκ2 hgdκ2 => ?_
  intro mκ2 hmκ2
  refine ⟨hgdκ2 _, ?_⟩
  rw [bi_inr rfl]
  simp only [dwipe, List.set_cons_zero, List.set_cons_succ]
  refine t_yes ?_
  refine if_y rfl ?_
  refine and_q (x := decide (sg3 a b c = 0)) (y := btwB a b c) (fun Q' hq => by (repeat walk_at "st"); exact hq) (fun Q' hq => by (repeat walk_at "st"); exact betw_q hq) fun κ3 f3 => ?_
  have e3 := f3 _ _ (kset_same (κ := κ2) (n := mκ2) (c := .live .lst []))
  refine ⟨e3, by unfold sizeLine; simp, hgdκ2 _, ?_⟩
  have g3 : Fa κ2 (kset κ3 mκ2 (.live .lst ([] ++ [.bl (decide (sg3 a b c = 0) && btwB a b c)]))) := ((Fa.new hmκ2).trans f3).put hmκ2
  have e4 : (kset κ3 mκ2 (.live .lst ([] ++ [.bl (decide (sg3 a b c = 0) && btwB a b c)]))) mκ2 = some (.live .lst [.bl (onB a b c)]) := kset_same
  generalize kset κ3 mκ2 (.live .lst ([] ++ [.bl (decide (sg3 a b c = 0) && btwB a b c)])) = κ4 at g3 e4
  rw [bi_inr rfl]
  simp only [dwipe, List.set_cons_zero, List.set_cons_succ]
  refine t_yes ?_
  refine if_y rfl ?_
  refine and_q (x := decide (sg3 a b d = 0)) (y := btwB a b d) (fun Q' hq => by (repeat walk_at "st"); exact hq) (fun Q' hq => by (repeat walk_at "st"); exact betw_q hq) fun κ5 f5 => ?_
  have e5 := f5 _ _ e4
  refine ⟨e5, by unfold sizeLine; simp, hgdκ2 _, kset_same, ?_⟩
  simp only [List.nil_append, List.cons_append, kset_kset]
  have f6 : Fa κ (kset κ5 mκ2 .dead) := f2.trans ((g3.trans f5).put hmκ2)
  generalize kset κ5 mκ2 .dead = κ6 at f6
  (repeat walk_at "st")
  refine ⟨[onB a b c, onB a b d], rfl, ?_⟩
  rw [show [onB a b c, onB a b d].any id = (onB a b c || onB a b d) by simp]
  generalize (onB a b c || onB a b d) = z at h
  cases z with
  | true =>
    (repeat walk_at "st")
    exact h κ6 f6
  | false =>
  (repeat walk_at "st")
  refine i_zip ?_
  (repeat walk_at "st")
  refine zq_2 fun gdκ6 hgdκ6 => ?_
  intro mκ6 hmκ6
  refine ⟨hgdκ6 _, ?_⟩
  rw [bi_inr rfl]
  simp only [dwipe, List.set_cons_zero, List.set_cons_succ]
  refine t_yes ?_
  refine if_y rfl ?_
  refine and_q (x := decide (sg3 c d a = 0)) (y := btwB c d a) (fun Q' hq => by (repeat walk_at "st"); exact hq) (fun Q' hq => by (repeat walk_at "st"); exact betw_q hq) fun κ3 f3 => ?_
  have e3 := f3 _ _ (kset_same (κ := κ6) (n := mκ6) (c := .live .lst []))
  refine ⟨e3, by unfold sizeLine; simp, hgdκ6 _, ?_⟩
  have g3 : Fa κ6 (kset κ3 mκ6 (.live .lst ([] ++ [.bl (decide (sg3 c d a = 0) && btwB c d a)]))) := ((Fa.new hmκ6).trans f3).put hmκ6
  have e4 : (kset κ3 mκ6 (.live .lst ([] ++ [.bl (decide (sg3 c d a = 0) && btwB c d a)]))) mκ6 = some (.live .lst [.bl (onB c d a)]) := kset_same
  generalize kset κ3 mκ6 (.live .lst ([] ++ [.bl (decide (sg3 c d a = 0) && btwB c d a)])) = κ4 at g3 e4
  rw [bi_inr rfl]
  simp only [dwipe, List.set_cons_zero, List.set_cons_succ]
  refine t_yes ?_
  refine if_y rfl ?_
  refine and_q (x := decide (sg3 c d b = 0)) (y := btwB c d b) (fun Q' hq => by (repeat walk_at "st"); exact hq) (fun Q' hq => by (repeat walk_at "st"); exact betw_q hq) fun κ5 f5 => ?_
  have e5 := f5 _ _ e4
  refine ⟨e5, by unfold sizeLine; simp, hgdκ6 _, kset_same, ?_⟩
  simp only [List.nil_append, List.cons_append, kset_kset]
  have f7 : Fa κ (kset κ5 mκ6 .dead) := f6.trans ((g3.trans f5).put hmκ6)
  generalize kset κ5 mκ6 .dead = κ7 at f7
  (repeat walk_at "st")
  refine ⟨[onB c d a, onB c d b], rfl, ?_⟩
  rw [show [onB c d a, onB c d b].any id = (onB c d a || onB c d b) by simp]
  exact h κ7 f7
end



def pD (sc : Pt → Pt) (e : Ed) : D := .node .tup [.int (e.g : Nat), .int (e.k : Nat), .int (e.m : Nat), .int (e.at' : Nat), edD (sc e.a) (sc e.b)]
section
variable {κ : Kap} {X : Str → List D → Kap → Prop} {Q : DQ}
theorem f_t4 {a b c d e : D} {r : List D} (h : Q e κ) : fIx (.node .tup (a :: b :: c :: d :: e :: r)) (.int 4) κ Q := ⟨e, at_nat (n := 4) rfl, h⟩
theorem f_t3 {a b c d : D} {r : List D} (h : Q d κ) : fIx (.node .tup (a :: b :: c :: d :: r)) (.int 3) κ Q := ⟨d, at_nat (n := 3) rfl, h⟩
theorem near_q {sc : Pt → Pt} {e o : Ed} (ha : Bg (sc e.a)) (hb : Bg (sc e.b)) (hc : Bg (sc o.a)) (hd : Bg (sc o.b)) (h : ∀ κ', Fa κ κ' → Q (.bl (R1 sc e o)) κ') : sp_is_too_near [pD sc e, pD sc o] κ X Q := by
  unfold R1 at h
  (unfold sp_is_too_near; refine s_sp rfl ?_; simp only [startD, List.map_cons, List.map_nil, List.length_cons, List.length_nil, Nat.zero_add, Nat.reduceAdd, Nat.reduceSub, List.replicate, List.cons_append, List.nil_append]; unfold b_is_too_near)
  unfold pD
  (repeat walk_at "st")
  by_cases e1 : (e.g : Int) = (o.g : Int)
  · have e1' : e.g = o.g := by omega
    refine if_y (decide_eq_true e1) ?_
    (repeat walk_at "st")
    by_cases e2 : (e.m : Int) = 2
    · refine if_y (decide_eq_true e2) ?_
      rw [if_pos ⟨e1', by omega⟩] at h
      (repeat walk_at "st")
      exact h κ Fa.refl
    · refine if_n (by rw [decide_eq_false e2]; decide) ?_
      rw [if_neg (by omega)] at h
      (repeat walk_at "st")
      by_cases e3 : (o.k : Int) = (e.k : Int) + 1
      · refine if_y (decide_eq_true e3) ?_
        rw [if_pos ⟨e1', by omega⟩] at h
        (repeat walk_at "st")
        refine f_t4 ?_
        (repeat walk_at "st")
        refine f_t4 ?_
        (repeat walk_at "st")
        exact fold_q ha hb hd h
      · refine if_n (by rw [decide_eq_false e3]; decide) ?_
        rw [if_neg (by omega)] at h
        (repeat walk_at "st")
        by_cases e4 : (e.k : Int) = 0
        · refine if_y (decide_eq_true e4) ?_
          (repeat walk_at "st")
          by_cases e5 : (o.k : Int) = (e.m : Int) - 1
          · refine if_y (decide_eq_true e5) ?_
            rw [if_pos ⟨e1', by omega, by omega⟩] at h
            (repeat walk_at "st")
            refine f_t4 ?_
            (repeat walk_at "st")
            refine f_t4 ?_
            (repeat walk_at "st")
            exact fold_q hc hd hb h
          · refine if_n (by rw [decide_eq_false e5]; decide) ?_
            rw [if_neg (by omega)] at h
            (repeat walk_at "st")
            refine f_t4 ?_
            (repeat walk_at "st")
            refine f_t4 ?_
            (repeat walk_at "st")
            exact touch_q ha hb hc hd h
        · refine if_n (by rw [decide_eq_false e4]; decide) ?_
          rw [if_neg (by omega)] at h
          (repeat walk_at "st")
          refine f_t4 ?_
          (repeat walk_at "st")
          refine f_t4 ?_
          (repeat walk_at "st")
          exact touch_q ha hb hc hd h
  · refine if_n (by rw [decide_eq_false e1]; decide) ?_
    rw [if_neg (by omega), if_neg (by omega), if_neg (by omega)] at h
    (repeat walk_at "st")
    refine f_t4 ?_
    (repeat walk_at "st")
    refine f_t4 ?_
    (repeat walk_at "st")
    exact touch_q ha hb hc hd h
end



theorem lp_ix {n a b c : Nat} {e : DE} {gd : Kap → Prop} {vs : List Nat} {δ : DEnv} {fin : List D → Kap → Prop} {items : List D} (I : Nat → List D → Kap → Prop) (h0 : ∀ acc κ, I items.length acc κ → gd κ ∧ fin acc κ)
    (hs : ∀ i d acc κ (L : List D → Kap → Prop), items[i]? = some d → (∀ acc κ, I (i + 1) acc κ → L acc κ) → I i acc κ → gd κ ∧ ∃ δ1, bindP a b c d (dwipe δ vs) κ = some δ1 ∧ e δ1 κ XF fun y κ3 => κ3 n = some (.live .lst acc) ∧ acc.length < sizeLine ∧ L (acc ++ [y]) (kset κ3 n (.live .lst (acc ++ [y]))))
    {acc : List D} {κ : Kap} (h : I 0 acc κ) : lpLoop n a b c e gd vs δ fin items acc κ := by
  have key : ∀ (m i : Nat) (acc : List D) (κ : Kap), m = items.length - i → i ≤ items.length → I i acc κ → lpLoop n a b c e gd vs δ fin (items.drop i) acc κ := by
    intro m
    induction m with
    | zero =>
      intro i acc κ hm hi h
      have : i = items.length := by omega
      subst this
      rw [List.drop_length]
      exact h0 _ _ h
    | succ m ih =>
      intro i acc κ hm hi h
      have hlt : i < items.length := by omega
      rw [List.drop_eq_getElem_cons hlt]
      exact hs i items[i] acc κ _ (List.getElem?_eq_getElem hlt) (fun acc κ h => ih (i + 1) acc κ (by omega) hlt h) h
  exact key _ 0 acc κ rfl (Nat.zero_le _) h
theorem e_lp {m : Bool} {it : DI} {i j k : Nat} {e : DE} {vs : List Nat} {δ : DEnv} {κ : Kap} {X : DX} {Q : DQ} (h : it δ κ X fun items gd κ1 => ∀ n, κ1 n = none →
    lpLoop n i j k e gd vs δ (fun acc κ' => κ' n = some (.live .lst acc) ∧ if m = true then Q (.cell n) κ' else Q (.lst acc) (kset κ' n .dead)) items [] (kset κ1 n (.live .lst []))) : dLp m it i j k e vs δ κ X Q := h
theorem bi_P {a b c : Nat} {x y z : D} {δ : DEnv} {κ : Kap} {P : DEnv → Prop} (h : P (((δ.set a (some x)).set b (some y)).set c (some z))) : ∃ δ1, bindP a b c (.node .tup [x, .node .tup [y, z]]) δ κ = some δ1 ∧ P δ1 := ⟨_, rfl, h⟩
def edT (e : Nat × Pt × Pt) : D := .node .tup [.int (e.1 : Nat), edD e.2.1 e.2.2]
theorem eds_len {f : Pt} : ∀ (r : List Pt) (i : Nat), (eds f i r).length ≤ r.length
  | [], _ => Nat.le_refl _
  | x :: r, i => by
    have ih := eds_len (f := f) r (i + 1)
    show (if r.headD f ≠ x then (i, x, r.headD f) :: eds f (i + 1) r else eds f (i + 1) r).length ≤ r.length + 1
    by_cases h : r.headD f ≠ x
    · rw [if_pos h, List.length_cons]
      omega
    · rw [if_neg h]
      omega
theorem row_len (g : Nat) (ps : List Pt) : (edRow g ps).length = (edOf g ps).length := by
  unfold edRow
  rw [List.length_map, List.length_zipIdx]
theorem allE_snoc : ∀ (rows : List (List Pt)) (g : Nat) (ps : List Pt), allE g (rows ++ [ps]) = allE g rows ++ edRow (g + rows.length) ps
  | [], g, ps => by simp [allE]
  | qs :: r, g, ps => by
    show edRow g qs ++ allE (g + 1) (r ++ [ps]) = (edRow g qs ++ allE (g + 1) r) ++ edRow (g + (r.length + 1)) ps
    rw [allE_snoc r (g + 1) ps, List.append_assoc, show g + 1 + r.length = g + (r.length + 1) by omega]
theorem allE_len : ∀ (rows : List (List Pt)) (g m : Nat), (∀ r ∈ rows, r.length ≤ m) → (allE g rows).length ≤ m * rows.length
  | [], _, _, _ => Nat.zero_le _
  | qs :: r, g, m, h => by
    show (edRow g qs ++ allE (g + 1) r).length ≤ m * (r.length + 1)
    rw [List.length_append, row_len, Nat.mul_add, Nat.mul_one]
    have h1 := allE_len r (g + 1) m fun x hx => h x (List.mem_cons_of_mem _ hx)
    have h2 := h qs List.mem_cons_self
    have h3 := eds_len (f := qs.headD (0, 0)) qs 0
    unfold edOf
    omega
theorem head_next {f : Pt} {qs : List Pt} (hf : qs.headD (0, 0) = f) {j : Nat} (hj : j < qs.length) : qs[(j + 1) % qs.length]? = some ((qs.drop (j + 1)).headD f) := by
  by_cases h : j + 1 < qs.length
  · rw [Nat.mod_eq_of_lt h, List.getElem?_eq_getElem h, List.drop_eq_getElem_cons h]
    rfl
  · have e : j + 1 = qs.length := by omega
    rw [e, Nat.mod_self, List.drop_length]
    cases qs with
    | nil => simp at hj
    | cons x r =>
      rw [← hf]
      rfl
def prP (p : Int × Int) : PyData := .tuple [.int p.1, .int p.2]
theorem prP_sp (p : Int × Int) : Sp 1 (prP p) := Sp.tuple (k := 0) fun q hq => by
  simp only [List.mem_cons, List.not_mem_nil, or_false] at hq
  rcases hq with rfl | rfl <;> exact Sp.int
section
variable {κ : Kap} {X : Str → List D → Kap → Prop} {Q : DQ}
theorem pr_pd (p : Pt) : Pd κ (prD p) (prP p) := .tup rfl (.cons (.int _) (.cons (.int _) .nil))
theorem eqv_pr (p q : Pt) : PyData.eqv (prP p) (prP q) = decide (p = q) := by
  unfold prP
  rw [eqv_pair]
  obtain ⟨a, b⟩ := p
  obtain ⟨c, d⟩ := q
  rw [Bool.eq_iff_iff, Bool.and_eq_true, decide_eq_true_eq, decide_eq_true_eq, decide_eq_true_eq, Prod.mk.injEq]
theorem ne_pr {p q : Pt} (h : Q (.bl (!decide (p = q))) κ) : fNe (prD p) (prD q) κ Q := by
  refine ⟨_, _, pr_pd p, pr_pd q, (prP_sp p).shaped (by decide), (prP_sp q).shaped (by decide), ?_⟩
  show Q (.bl (!(PyData.eqv (prP p) (prP q)))) κ
  rw [eqv_pr]
  exact h
theorem edges_q {n : Nat} {qss : List (List Pt)} (en : κ n = some (.live .lst (qss.map fun qs => .node .lst (qs.map prD)))) (h4 : qss.length ≤ 4) (hl : ∀ qs ∈ qss, qs.length ≤ 100)
    (h : ∀ m κ', κ m = none → κ' m = some (.live .lst ((allE 0 qss).map (pD id))) → Fa κ κ' → Q (.cell m) κ') : sp_edges_of [.cell n] κ X Q := by
  (unfold sp_edges_of; refine s_sp rfl ?_; simp only [startD, List.map_cons, List.map_nil, List.length_cons, List.length_nil, Nat.zero_add, Nat.reduceAdd, Nat.reduceSub, List.replicate, List.cons_append, List.nil_append]; unfold b_edges_of)
  (repeat walk_at "st")
  refine e_nwt fun n1 hn1 => ?_
  (repeat walk_at "st")
  refine en_C (by rw [kset_ne (kne en hn1)]; exact en) ?_
  refine dl_ix (fun i δ κ' => (∃ a2 a3 a4 a5 a6 a7 a8 a9, δ = [some (.cell n), some (.cell n1), a2, a3, a4, a5, a6, a7, a8, a9]) ∧ Fa κ κ' ∧ κ' n1 = some (.live .lst ((allE 0 (qss.take i)).map (pD id)))) ?_ ?_ ⟨⟨_, _, _, _, _, _, _, _, rfl⟩, Fa.new hn1, kset_same⟩
  · rintro δ κ' ⟨⟨a2, a3, a4, a5, a6, a7, a8, a9, rfl⟩, f, e1⟩
    rw [enumD_len, List.length_map, List.take_length] at e1
    refine ⟨f _ _ en, ?_⟩
    (repeat walk_at "st")
    exact h n1 _ hn1 e1 f
  · rintro i d δ κ' L hd hL ⟨⟨a2, a3, a4, a5, a6, a7, a8, a9, rfl⟩, f, e1⟩
    rw [enumD_get, List.getElem?_map, Option.map_map, Option.map_eq_some_iff] at hd
    obtain ⟨qs, hqs, rfl⟩ := hd
    have hil : i < qss.length := (List.getElem?_eq_some_iff.mp hqs).1
    have hql := hl qs (List.mem_of_getElem? hqs)
    have hsn : allE 0 (qss.take (i + 1)) = allE 0 (qss.take i) ++ edRow i qs := by
      rw [List.take_succ, hqs]
      show allE 0 (qss.take i ++ [qs]) = _
      rw [allE_snoc, List.length_take, Nat.min_eq_left (by omega), Nat.zero_add]
    have hfl := allE_len (qss.take i) 0 100 fun r hr => hl r (List.mem_of_mem_take hr)
    rw [List.length_take] at hfl
    rw [hsn] at hL
    refine ⟨f _ _ en, ?_⟩
    show gTupD 2 _ (.node .tup [.int ((0 + i : Nat) : Int), .node .lst (qs.map prD)]) _ _ _ _
    rw [Nat.zero_add]
    (repeat walk_at "st")
    refine e_nwt fun n2 hn2 => ?_
    have h12 : n1 ≠ n2 := kne e1 hn2
    have f2 : Fa κ (kset κ' n2 (.live .lst [])) := f.trans (Fa.new hn2)
    have e2 : (kset κ' n2 (.live .lst [])) n1 = some (.live .lst ((allE 0 (qss.take i)).map (pD id))) := by rw [kset_ne h12]; exact e1
    have hn2' : κ n2 = none := by
      cases q : κ n2 with
      | none => rfl
      | some c => rw [f _ _ q] at hn2; cases hn2
    (repeat walk_at "st")
    refine dl_ix (fun j δ κ'' => ∃ acc : List (Nat × Pt × Pt), acc ++ eds (qs.headD (0, 0)) j (qs.drop j) = edOf i qs ∧ (∃ a5 a6 a7 a8 a9, δ = [some (.cell n), some (.cell n1), some (.int (i : Nat)), some (.node .lst (qs.map prD)), some (.cell n2), a5, a6, a7, a8, a9]) ∧
      Fa κ κ'' ∧ κ'' n1 = some (.live .lst ((allE 0 (qss.take i)).map (pD id))) ∧ κ'' n2 = some (.live .lst (acc.map edT))) ?_ ?_ ⟨[], rfl, ⟨_, _, _, _, _, rfl⟩, f2, e2, kset_same⟩
    · rintro δ κ'' ⟨acc, ha, ⟨b5, b6, b7, b8, b9, rfl⟩, f3, e3, e4⟩
      rw [enumD_len, List.length_map, List.drop_length] at ha
      have ha' : acc = edOf i qs := by
        rw [← ha]
        exact (List.append_nil acc).symm
      subst ha'
      clear ha
      have hel : (edOf i qs).length ≤ 100 := Nat.le_trans (eds_len _ _) hql
      refine ⟨trivial, ?_⟩
      (repeat walk_at "st")
      refine isq_cell e3 ?_
      refine e_lp ?_
      (repeat walk_at "st")
      refine en_C e4 ?_
      intro n3 hn3
      have h13 : n1 ≠ n3 := kne e3 hn3
      have hn3' : κ n3 = none := by
        cases q : κ n3 with
        | none => rfl
        | some c => rw [f3 _ _ q] at hn3; cases hn3
      refine lp_ix (fun k acc κ3 => acc = ((edOf i qs).zipIdx.take k).map (fun x => pD id (mkE i (edOf i qs).length x)) ∧ κ3 n3 = some (.live .lst acc) ∧ Fa κ'' κ3) ?_ ?_ ⟨rfl, kset_same, Fa.new hn3⟩
      · rintro acc κ3 ⟨rfl, e5, f5⟩
        rw [enumD_len, List.length_map] at e5 ⊢
        have hz : ((edOf i qs).zipIdx.take (edOf i qs).length).map (fun x => pD id (mkE i (edOf i qs).length x)) = (edRow i qs).map (pD id) := by
          rw [List.take_of_length_le (by rw [List.length_zipIdx]; exact Nat.le_refl _)]
          unfold edRow
          rw [List.map_map]
          rfl
        rw [hz] at e5 ⊢
        refine ⟨f5 _ _ e4, e5, ?_⟩
        have f6 : Fa κ'' (kset κ3 n3 .dead) := f5.put hn3
        have e6 := f6 _ _ e3
        generalize kset κ3 n3 .dead = κ4 at f6 e6
        (repeat walk_at "st")
        refine ⟨_, e6, by rw [List.length_map, List.length_map, row_len]; unfold sizeLine; omega, ?_⟩
        refine hL _ _ ⟨⟨_, _, _, _, _, _, _, _, rfl⟩, (f3.trans f6).put hn1, ?_⟩
        rw [kset_same, List.map_append]
      · rintro k e acc κ3 L3 he hL3 ⟨rfl, e5, f5⟩
        rw [enumD_get, List.getElem?_map, Option.map_map, Option.map_eq_some_iff] at he
        obtain ⟨e', he', rfl⟩ := he
        have hkl := (List.getElem?_eq_some_iff.mp he').1
        refine ⟨f5 _ _ e4, ?_⟩
        show ∃ δ1, bindP 8 5 9 (.node .tup [.int ((0 + k : Nat) : Int), edT e']) _ _ = some δ1 ∧ _
        rw [Nat.zero_add]
        unfold edT
        refine bi_P ?_
        simp only [dwipe, List.set_cons_zero, List.set_cons_succ]
        have e7 := f5 _ _ e4
        (repeat walk_at "st")
        refine f_lnC e7 ?_
        (repeat walk_at "st")
        refine ⟨e5, by rw [List.length_map, List.length_take, List.length_zipIdx]; unfold sizeLine; omega, hL3 _ _ ⟨?_, kset_same, f5.put hn3⟩⟩
        rw [List.take_succ, List.getElem?_zipIdx, he', List.map_append, Nat.zero_add, List.length_map]
        rfl
    · rintro j e δ κ'' L2 he hL2 ⟨acc, ha, ⟨b5, b6, b7, b8, b9, rfl⟩, f3, e3, e4⟩
      have hjl : j < qs.length := by
        have := (List.getElem?_eq_some_iff.mp he).1
        rw [enumD_len, List.length_map] at this
        exact this
      rw [enumD_get, List.getElem?_map, List.getElem?_eq_getElem hjl] at he
      have hdr := List.drop_eq_getElem_cons hjl
      have hnx := head_next (qs := qs) rfl hjl
      rw [hdr] at ha
      generalize qs[j] = p at he ha
      cases he
      change acc ++ (if (qs.drop (j + 1)).headD (qs.headD (0, 0)) ≠ p then (j, p, (qs.drop (j + 1)).headD (qs.headD (0, 0))) :: eds (qs.headD (0, 0)) (j + 1) (qs.drop (j + 1)) else eds (qs.headD (0, 0)) (j + 1) (qs.drop (j + 1))) = edOf i qs at ha
      generalize (qs.drop (j + 1)).headD (qs.headD (0, 0)) = y at ha hnx
      have hat : (qs.map prD)[(j + 1) % qs.length]? = some (prD y) := by rw [List.getElem?_map, hnx]; rfl
      have hfm : ((j : Int) + 1).fmod (qs.length : Int) = (((j + 1) % qs.length : Nat) : Int) := by
        rw [show ((j : Int) + 1) = ((j + 1 : Nat) : Int) from rfl, ← Int.ofNat_fmod]
      have hal : acc.length ≤ 100 := by
        have := congrArg List.length ha
        rw [List.length_append] at this
        have h1 := eds_len (f := qs.headD (0, 0)) qs 0
        unfold edOf at this
        omega
      refine ⟨trivial, ?_⟩
      show gTupD 2 _ (.node .tup [.int ((0 + j : Nat) : Int), prD p]) _ _ _ _
      rw [Nat.zero_add]
      (repeat walk_at "st")
      rw [List.length_map]
      refine f_mod (by omega) ?_
      rw [hfm]
      refine f_ixN hat ?_
      (repeat walk_at "st")
      refine ne_pr ?_
      (repeat walk_at "st")
      by_cases hy : y = p
      · rw [decide_eq_true hy]
        rw [if_neg (fun z => z hy)] at ha
        (repeat walk_at "st")
        exact hL2 _ _ ⟨acc, ha, ⟨_, _, _, _, _, rfl⟩, f3, e3, e4⟩
      · rw [decide_eq_false hy]
        rw [if_pos hy] at ha
        (repeat walk_at "st")
        refine isq_cell e4 ?_
        (repeat walk_at "st")
        refine f_app e4 (by rw [List.length_map]; omega) ?_
        (repeat walk_at "st")
        have ne21 : n2 ≠ n1 := Ne.symm h12
        refine hL2 _ _ ⟨acc ++ [(j, p, y)], ?_, ⟨_, _, _, _, _, rfl⟩, f3.put hn2', by rw [kset_ne h12]; exact e3, ?_⟩
        · rw [List.append_assoc]
          exact ha
        · rw [kset_same, List.map_append]
          rfl
end



def resD : Option (Ed × Ed) → D
  | none => .non
  | some (e, o) => .node .tup [.node .tup [.int (e.g : Nat), .int (e.at' : Nat)], .node .tup [.int (o.g : Nat), .int (o.at' : Nat)]]
theorem cut_lo {xs : List D} {k : Nat} (h : k ≤ xs.length) : cutD xs (some (k : Int)) none = xs.drop k := by
  unfold cutD
  rw [HT.sIx_nat, HT.sIx_none, Nat.min_eq_left h]
  exact List.take_of_length_le (by rw [List.length_drop]; exact Nat.le_refl _)
theorem eds_mem {f : Pt} : ∀ (r : List Pt) (i : Nat), ∀ e ∈ eds f i r, e.2.1 ∈ r ∧ (e.2.2 ∈ r ∨ e.2.2 = f)
  | [], _, e, h => by simp [eds] at h
  | x :: r, i, e, h => by
    have h' : e ∈ (if r.headD f ≠ x then (i, x, r.headD f) :: eds f (i + 1) r else eds f (i + 1) r) := h
    have go : e ∈ eds f (i + 1) r → e.2.1 ∈ x :: r ∧ (e.2.2 ∈ x :: r ∨ e.2.2 = f) := fun h => by
      obtain ⟨a, b⟩ := eds_mem r (i + 1) e h
      exact ⟨List.mem_cons_of_mem _ a, b.imp_left (List.mem_cons_of_mem _)⟩
    by_cases q : r.headD f ≠ x
    · rw [if_pos q] at h'
      rcases List.mem_cons.mp h' with z | z
      · rw [z]
        refine ⟨List.mem_cons_self, ?_⟩
        cases r with
        | nil => exact .inr rfl
        | cons y r => exact .inl (List.mem_cons_of_mem _ List.mem_cons_self)
      · exact go z
    · rw [if_neg q] at h'
      exact go h'
theorem allE_mem : ∀ (qss : List (List Pt)) (g : Nat), ∀ e ∈ allE g qss, ∃ qs ∈ qss, e.a ∈ qs ∧ e.b ∈ qs
  | [], _, e, h => by simp [allE] at h
  | qs :: r, g, e, h => by
    rcases List.mem_append.mp h with z | z
    · obtain ⟨i, hi⟩ := List.mem_iff_getElem?.mp z
      obtain ⟨_, _, _, a4⟩ := row_get hi
      obtain ⟨b1, b2⟩ := eds_mem _ _ _ (List.mem_of_getElem? a4)
      refine ⟨qs, List.mem_cons_self, b1, ?_⟩
      rcases b2 with b2 | b2
      · exact b2
      · rw [show e.b = qs.headD (0, 0) from b2]
        cases qs with
        | nil => cases b1
        | cons x r => exact List.mem_cons_self
    · obtain ⟨qs', h1, h2⟩ := allE_mem r (g + 1) e z
      exact ⟨qs', List.mem_cons_of_mem _ h1, h2⟩
section
variable {κ : Kap} {X : Str → List D → Kap → Prop} {Q : DQ}
theorem first_q {B : Nat} {d : D} {rows : List (List (Rat × Rat))} (R : Rows κ d rows) (hB0 : 0 < B) (hB : B ≤ 64) (h1 : 1 ≤ rows.length) (h4 : rows.length ≤ 4) (hr : ∀ r ∈ rows, 1 ≤ r.length ∧ r.length ≤ 100) (hd : ∀ r ∈ rows, ∀ p ∈ r, p.1.den ∣ B ∧ p.2.den ∣ B) (hz : ∀ r ∈ rows, ∀ p ∈ r, Sz 200 p.1 ∧ Sz 200 p.2)
    (h : ∀ (M : Nat) κ', 0 < M → M ∣ B → (∀ r ∈ rows, ∀ p ∈ r, p.1.den ∣ M ∧ p.2.den ∣ M) → Fa κ κ' → Q (resD (fstBad (R1 id) (allE 0 (rows.map fun r => r.map (wP M))))) κ') : sp_first_crossing [d] κ X Q := by
  (unfold sp_first_crossing; refine s_sp rfl ?_; simp only [startD, List.map_cons, List.map_nil, List.length_cons, List.length_nil, Nat.zero_add, Nat.reduceAdd, Nat.reduceSub, List.replicate, List.cons_append, List.nil_append]; unfold b_first_crossing)
  (repeat walk_at "st")
  refine need_ok R h1 h4 hr fun κ1 f1 => ?_
  (repeat walk_at "st")
  refine wholes_q (R.mono f1) hB0 hB h4 (fun r hr' => (hr r hr').2) hd hz fun M n κ2 m0 m1 m2 hn en f2 => ?_
  have hM := Nat.le_of_dvd hB0 m1
  have eq : (rows.map fun r => D.node .lst (r.map fun p => prD (wP M p))) = (rows.map fun r => r.map (wP M)).map fun qs => D.node .lst (qs.map prD) := by
    rw [List.map_map]
    refine List.map_congr_left fun r _ => ?_
    show _ = D.node .lst ((r.map (wP M)).map prD)
    rw [List.map_map]
    rfl
  rw [eq] at en
  refine edges_q en (by rw [List.length_map]; exact h4) (fun qs hq => ?_) fun m κ3 hm em f3 => ?_
  · obtain ⟨r, hr', rfl⟩ := List.mem_map.mp hq
    rw [List.length_map]
    exact (hr r hr').2
  have hw : ∀ q : Rat, Sz 200 q → (wI M q).natAbs < 2 ^ 300 := fun q hq => by
    have h3 := fdiv_abs_le (x := (M : Int)) (y := (q.den : Int)) (by have := q.den_pos; omega)
    exact bd_mono (mul_bd (b := 64) hq.1 (show ((M : Int).fdiv q.den).natAbs < 2 ^ 64 by omega)) (by decide)
  have f : Fa κ κ3 := f1.trans (f2.trans f3)
  have h := fun κ' => h M κ' m0 m1 m2
  have bg : ∀ e ∈ allE 0 (rows.map fun r => r.map (wP M)), Bg e.a ∧ Bg e.b := fun e he => by
    obtain ⟨qs, hq, ha, hb⟩ := allE_mem _ _ e he
    obtain ⟨r, hr', rfl⟩ := List.mem_map.mp hq
    obtain ⟨p, hp, ep⟩ := List.mem_map.mp ha
    obtain ⟨p', hp', ep'⟩ := List.mem_map.mp hb
    rw [← ep, ← ep']
    have z1 := hz r hr' p hp
    have z2 := hz r hr' p' hp'
    exact ⟨⟨hw _ z1.1, hw _ z1.2⟩, ⟨hw _ z2.1, hw _ z2.2⟩⟩
  generalize allE 0 (rows.map fun r => r.map (wP M)) = L at em h bg
  (repeat walk_at "st")
  refine en_C em ?_
  refine dl_ix (fun i δ κ' => (∃ a2 a3 a4, δ = [some d, some (.cell m), a2, a3, a4]) ∧ Fa κ κ' ∧ κ' m = some (.live .lst (L.map (pD id))) ∧ fstBad (R1 id) L = fstBad (R1 id) (L.drop i)) ?_ ?_ ⟨⟨_, _, _, rfl⟩, f, em, rfl⟩
  · rintro δ κ' ⟨⟨a2, a3, a4, rfl⟩, f4, e4, hb⟩
    rw [enumD_len, List.length_map, List.drop_length] at hb
    refine ⟨e4, ?_⟩
    (repeat walk_at "st")
    have := h κ' f4
    rw [hb] at this
    exact this
  · rintro i e δ κ' L1 he hL1 ⟨⟨a2, a3, a4, rfl⟩, f4, e4, hb⟩
    rw [enumD_get, List.getElem?_map, Option.map_map, Option.map_eq_some_iff] at he
    obtain ⟨e', he', rfl⟩ := he
    have hil := (List.getElem?_eq_some_iff.mp he').1
    have hdr := List.drop_eq_getElem_cons hil
    have e'' : L[i] = e' := Option.some.inj ((List.getElem?_eq_getElem hil).symm.trans he')
    rw [e''] at hdr
    have bge := bg e' (List.mem_of_getElem? he')
    refine ⟨e4, ?_⟩
    show gTupD 2 _ (.node .tup [.int ((0 + i : Nat) : Int), pD id e']) _ _ _ _
    rw [Nat.zero_add]
    (repeat walk_at "st")
    refine sl_C e4 ?_
    rw [show ((i : Int) + 1) = ((i + 1 : Nat) : Int) from rfl, cut_lo (by rw [List.length_map]; omega), ← List.map_drop]
    unfold fNew
    dsimp only
    refine q_L ?_
    rw [hdr] at hb
    change _ = (match (L.drop (i + 1)).find? (R1 id e') with
      | some o => some (e', o)
      | none => fstBad (R1 id) (L.drop (i + 1))) at hb
    generalize hl : L.drop (i + 1) = l at hb hL1
    have bgl : ∀ o ∈ l, Bg o.a ∧ Bg o.b := fun o ho => bg o (by rw [← hl] at ho; exact List.mem_of_mem_drop ho)
    refine dl_ix (fun j δ κ'' => (∃ a4, δ = [some d, some (.cell m), some (.int (i : Nat)), some (pD id e'), a4]) ∧ Fa κ κ'' ∧ κ'' m = some (.live .lst (L.map (pD id))) ∧ l.find? (R1 id e') = (l.drop j).find? (R1 id e')) ?_ ?_ ⟨⟨_, rfl⟩, f4, e4, rfl⟩
    · rintro δ κ'' ⟨⟨b4, rfl⟩, f5, e5, hf⟩
      rw [List.length_map, List.drop_length] at hf
      refine ⟨trivial, hL1 _ _ ⟨⟨_, _, _, rfl⟩, f5, e5, ?_⟩⟩
      rw [hf] at hb
      exact hb
    · rintro j o δ κ'' L2 ho hL2 ⟨⟨b4, rfl⟩, f5, e5, hf⟩
      rw [List.getElem?_map, Option.map_eq_some_iff] at ho
      obtain ⟨o', ho', rfl⟩ := ho
      have hjl := (List.getElem?_eq_some_iff.mp ho').1
      have hdj := List.drop_eq_getElem_cons hjl
      have ej : l[j] = o' := Option.some.inj ((List.getElem?_eq_getElem hjl).symm.trans ho')
      rw [ej] at hdj
      have bgo := bgl o' (List.mem_of_getElem? ho')
      rw [hdj, List.find?_cons] at hf
      refine ⟨trivial, ?_⟩
      (repeat walk_at "st")
      refine near_q (sc := id) bge.1 bge.2 bgo.1 bgo.2 fun κ4 f6 => ?_
      have e6 := f6 _ _ e5
      cases hR : R1 id e' o' with
      | true =>
        rw [hR] at hf
        rw [hf] at hb
        have hq := h κ4 (f5.trans f6)
        rw [hb] at hq
        unfold pD
        (repeat walk_at "st")
        refine f_t3 ?_
        (repeat walk_at "st")
        refine f_t3 ?_
        (repeat walk_at "st")
        exact hq
      | false =>
        rw [hR] at hf
        (repeat walk_at "st")
        exact hL2 _ _ ⟨⟨_, rfl⟩, f5.trans f6, e6, hf⟩
end



def lD (e : Ed) : D := .node .tup [.int (e.g : Nat), .int (e.at' : Nat), prD e.a, prD (stp e), .int (e.k : Nat)]
def Bm (p : Pt) : Prop := p.1.natAbs < 2 ^ 130 ∧ p.2.natAbs < 2 ^ 130
section
variable {κ : Kap} {X : Str → List D → Kap → Prop} {Q : DQ}
theorem cross_q {u v : Pt} (hu : Bm u) (hv : Bm v) (h : Q (.int (crs u v)) κ) : sp__law_cross [prD u, prD v] κ X Q := by
  (unfold sp__law_cross; refine s_sp rfl ?_; simp only [startD, List.map_cons, List.map_nil, List.length_cons, List.length_nil, Nat.zero_add, Nat.reduceAdd, Nat.reduceSub, List.replicate, List.cons_append, List.nil_append]; unfold b__law_cross)
  unfold prD
  obtain ⟨u1, u2⟩ := hu
  obtain ⟨v1, v2⟩ := hv
  (repeat walk_at "st")
  refine f_mul (cmul_of 130 130 u1 v2 (by decide)) ?_
  (repeat walk_at "st")
  refine f_mul (cmul_of 130 130 u2 v1 (by decide)) ?_
  (repeat walk_at "st")
  exact h
theorem along_q {s b p : Pt} (hs : Bm s) (hb : Bm b) (hp : p.1.natAbs < 2 ^ 131 ∧ p.2.natAbs < 2 ^ 131) (h : Q (.int (dtp (sbt p b) s)) κ) : sp__law_along [prD s, prD b, prD p] κ X Q := by
  (unfold sp__law_along; refine s_sp rfl ?_; simp only [startD, List.map_cons, List.map_nil, List.length_cons, List.length_nil, Nat.zero_add, Nat.reduceAdd, Nat.reduceSub, List.replicate, List.cons_append, List.nil_append]; unfold b__law_along)
  unfold prD
  obtain ⟨u1, u2⟩ := hs
  obtain ⟨v1, v2⟩ := hb
  (repeat walk_at "st")
  refine f_mul (cmul_of 132 130 (by omega) u1 (by decide)) ?_
  (repeat walk_at "st")
  refine f_mul (cmul_of 132 130 (by omega) u2 (by decide)) ?_
  (repeat walk_at "st")
  exact h
theorem crs_bd {u v : Pt} (hu : Bm u) (hv : Bm v) : (crs u v).natAbs < 2 ^ 262 := by
  have h1 := mul_bd hu.1 hv.2
  have h2 := mul_bd hu.2 hv.1
  unfold crs
  have e : (2 : Nat) ^ 262 = 2 ^ (130 + 130) * 4 := by decide
  omega
theorem folded_q {e o : Ed} (h1 : Bm (stp e)) (h2 : Bm (stp o)) (h : Q (.bl (foB (stp e) (stp o))) κ) : sp__law_folded [lD e, lD o] κ X Q := by
  (unfold sp__law_folded; refine s_sp rfl ?_; simp only [startD, List.map_cons, List.map_nil, List.length_cons, List.length_nil, Nat.zero_add, Nat.reduceAdd, Nat.reduceSub, List.replicate, List.cons_append, List.nil_append]; unfold b__law_folded)
  unfold lD
  (repeat walk_at "st")
  refine f_t3 ?_
  unfold prD
  (repeat walk_at "st")
  refine f_t3 ?_
  (repeat walk_at "st")
  refine f_mul (cmul_of 130 130 h1.1 h2.1 (by decide)) ?_
  (repeat walk_at "st")
  refine f_t3 ?_
  (repeat walk_at "st")
  refine f_t3 ?_
  (repeat walk_at "st")
  refine f_mul (cmul_of 130 130 h1.2 h2.2 (by decide)) ?_
  (repeat walk_at "st")
  refine f_t3 ?_
  (repeat walk_at "st")
  refine f_t3 ?_
  (repeat walk_at "st")
  refine cross_q h1 h2 ?_
  (repeat walk_at "st")
  unfold foB dtp at h
  generalize decide (crs (stp e) (stp o) = 0) = z at *
  cases z with
  | true =>
    refine if_y rfl ?_
    (repeat walk_at "st")
    exact h
  | false =>
    refine if_n (by decide) ?_
    exact h
theorem sort2 {l h : Int} {ns : List Int} (p : ns.Perm [l, h]) (q : ns.Pairwise (· ≤ ·)) : ns = [min l h, max l h] := by
  have hl := p.length_eq
  match ns, hl with
  | [a, b], _ =>
    have hab : a ≤ b := by
      rw [List.pairwise_cons] at q
      exact q.1 b List.mem_cons_self
    have ha : a ∈ [l, h] := p.mem_iff.mp List.mem_cons_self
    simp only [List.mem_cons, List.not_mem_nil, or_false] at ha
    rcases ha with e | e
    · subst e
      have p2 := (List.perm_cons a).mp p
      have e2 : b = h := by
        have := p2.mem_iff.mp (List.mem_cons_self (a := b) (l := []))
        simpa using this
      subst e2
      rw [Int.min_eq_left hab, Int.max_eq_right hab]
    · subst e
      have p2 := (List.perm_cons a).mp (p.trans (List.Perm.swap a l []))
      have e2 : b = l := by
        have := p2.mem_iff.mp (List.mem_cons_self (a := b) (l := []))
        simpa using this
      subst e2
      rw [Int.min_eq_right hab, Int.max_eq_left hab]
theorem way_q {T : Int} {P : DQ} (h : ∀ w : Int, w = (if T < 0 then -1 else 1) → P (.int w) κ) : fIx (.node .lst [.int 1, .int (-1)]) (.int (if decide (T < 0) = true then 1 else 0)) κ P := by
  by_cases e : T < 0
  · rw [decide_eq_true e, if_pos rfl]
    exact ⟨_, at_nat (n := 1) rfl, h _ (by rw [if_pos e])⟩
  · rw [decide_eq_false e, if_neg (by decide)]
    exact ⟨_, at_nat (n := 0) rfl, h _ (by rw [if_neg e])⟩
theorem ch0_q {x y : Int} {P : D → Kap → Prop} {A : Prop} (h : P (.bl (decide (0 ≤ x) && decide (x ≤ y))) κ) (ha : 0 ≤ x → P (.bl (decide (x ≤ y))) κ → A) : if decide (0 ≤ x) = true then A else P (.bl false) κ := by
  by_cases e : 0 ≤ x
  · rw [decide_eq_true e, Bool.true_and] at h
    exact if_y (decide_eq_true e) (ha e h)
  · rw [decide_eq_false e, Bool.false_and] at h
    exact if_n (by rw [decide_eq_false e]; decide) h
theorem shared_q {e o : Ed} (h1 : Bm (stp e)) (h2 : Bm (stp o)) (ha : e.a.1.natAbs < 2 ^ 129 ∧ e.a.2.natAbs < 2 ^ 129) (hc : o.a.1.natAbs < 2 ^ 129 ∧ o.a.2.natAbs < 2 ^ 129) (h : Q (.bl (shB (stp e) (stp o) (sbt o.a e.a))) κ) : sp__law_shared [lD e, lD o] κ X Q := by
  (unfold sp__law_shared; refine s_sp rfl ?_; simp only [startD, List.map_cons, List.map_nil, List.length_cons, List.length_nil, Nat.zero_add, Nat.reduceAdd, Nat.reduceSub, List.replicate, List.cons_append, List.nil_append]; unfold b__law_shared)
  unfold lD
  (repeat walk_at "st")
  refine f_t3 ?_
  simp only [List.set_cons_zero, List.set_cons_succ]
  unfold prD
  have hb : Bm (sbt o.a e.a) := ⟨by show (o.a.1 - e.a.1).natAbs < _; omega, by show (o.a.2 - e.a.2).natAbs < _; omega⟩
  have hea : Bm e.a := ⟨by omega, by omega⟩
  (repeat walk_at "st")
  refine f_t3 ?_
  (repeat walk_at "st")
  refine cross_q h1 h2 ?_
  (repeat walk_at "st")
  unfold shB at h
  by_cases hT : crs (stp e) (stp o) = 0
  · refine if_y (decide_eq_true hT) ?_
    (repeat walk_at "st")
    refine cross_q (v := sbt o.a e.a) h1 hb ?_
    (repeat walk_at "st")
    by_cases hC : crs (stp e) (sbt o.a e.a) = 0
    · rw [decide_eq_true hC]
      (repeat walk_at "st")
      refine f_t3 ?_
      (repeat walk_at "st")
      refine f_t3 ?_
      (repeat walk_at "st")
      refine along_q (s := stp e) (b := e.a) (p := o.a) h1 hea (by omega) ?_
      (repeat walk_at "st")
      have hob := h2
      refine along_q (s := stp e) (b := e.a) (p := (o.a.1 + (stp o).1, o.a.2 + (stp o).2)) h1 hea (by obtain ⟨z1, z2⟩ := h2; exact ⟨by dsimp only; omega, by dsimp only; omega⟩) ?_
      (repeat walk_at "st")
      refine ⟨[_, _], rfl, fun ns' hp hs => ?_⟩
      rw [sort2 hp hs]
      refine ⟨_, rfl, rfl, ?_⟩
      rw [List.map_cons, List.map_cons, List.map_nil]
      (repeat walk_at "st")
      refine along_q (s := stp e) (b := (0, 0)) (p := stp e) h1 ⟨by decide, by decide⟩ (by obtain ⟨z1, z2⟩ := h1; omega) ?_
      (repeat walk_at "st")
      have e0 : sbt (stp e) (0, 0) = stp e := Prod.ext (by simp only [sbt]; omega) (by simp only [sbt]; omega)
      have ed : dtp (sbt (o.a.1 + (stp o).1, o.a.2 + (stp o).2) e.a) (stp e) = dtp (sbt o.a e.a) (stp e) + dtp (stp o) (stp e) := by
        simp only [dtp, sbt]
        grind
      rw [e0, ed]
      have hf : decide (shC (stp e) (stp o) (sbt o.a e.a)) = (decide (min (dtp (sbt o.a e.a) (stp e)) (dtp (sbt o.a e.a) (stp e) + dtp (stp o) (stp e)) ≤ dtp (stp e) (stp e)) && decide (0 ≤ max (dtp (sbt o.a e.a) (stp e)) (dtp (sbt o.a e.a) (stp e) + dtp (stp o) (stp e)))) := by
        rw [Bool.eq_iff_iff, Bool.and_eq_true, decide_eq_true_eq, decide_eq_true_eq, decide_eq_true_eq]
        unfold shC
        rw [if_pos hT]
        exact ⟨fun z => z.2, fun z => ⟨hC, z⟩⟩
      rw [hf] at h
      generalize decide (min (dtp (sbt o.a e.a) (stp e)) (dtp (sbt o.a e.a) (stp e) + dtp (stp o) (stp e)) ≤ dtp (stp e) (stp e)) = z at *
      cases z with
      | true =>
        refine if_y rfl ?_
        (repeat walk_at "st")
        exact h
      | false =>
        refine if_n (by decide) ?_
        exact h
    · rw [decide_eq_false hC]
      have hf : decide (shC (stp e) (stp o) (sbt o.a e.a)) = false := decide_eq_false fun z => by
        unfold shC at z
        rw [if_pos hT] at z
        exact hC z.1
      rw [hf] at h
      (repeat walk_at "st")
      exact h
  · refine if_n (by rw [decide_eq_false hT]; decide) ?_
    (repeat walk_at "st")
    have bT := crs_bd h1 h2
    have bC := crs_bd hb h2
    have bD := crs_bd hb h1
    have hw : ∀ (w : Int), w = (if crs (stp e) (stp o) < 0 then -1 else 1) → w.natAbs < 2 ^ 2 := fun w hw => by
      rw [hw]
      split <;> decide
    have hf : ∀ (w : Int), w = (if crs (stp e) (stp o) < 0 then -1 else 1) → decide (shC (stp e) (stp o) (sbt o.a e.a)) =
        ((decide (0 ≤ crs (sbt o.a e.a) (stp o) * w) && decide (crs (sbt o.a e.a) (stp o) * w ≤ crs (stp e) (stp o) * w)) && (decide (0 ≤ crs (sbt o.a e.a) (stp e) * w) && decide (crs (sbt o.a e.a) (stp e) * w ≤ crs (stp e) (stp o) * w))) := fun w hw => by
      rw [Bool.eq_iff_iff, Bool.and_eq_true, Bool.and_eq_true, Bool.and_eq_true, decide_eq_true_eq, decide_eq_true_eq, decide_eq_true_eq, decide_eq_true_eq, decide_eq_true_eq]
      unfold shC
      rw [if_neg hT, ← hw]
    refine way_q fun w ew => ?_
    have hw := hw w ew
    rw [hf w ew] at h
    clear hf
    (repeat walk_at "st")
    refine f_t3 ?_
    (repeat walk_at "st")
    refine cross_q (u := sbt o.a e.a) hb h2 ?_
    (repeat walk_at "st")
    refine f_mul (cmul_of 262 2 bC hw (by decide)) ?_
    (repeat walk_at "st")
    refine cross_q (u := sbt o.a e.a) hb h1 ?_
    (repeat walk_at "st")
    refine f_mul (cmul_of 262 2 bD hw (by decide)) ?_
    (repeat walk_at "st")
    simp only [List.set_cons_zero, List.set_cons_succ]
    by_cases q1 : 0 ≤ crs (sbt o.a e.a) (stp o) * w
    · rw [decide_eq_true q1, Bool.true_and] at h
      refine if_y (decide_eq_true q1) ?_
      (repeat walk_at "st")
      refine f_mul (cmul_of 262 2 bT hw (by decide)) ?_
      (repeat walk_at "st")
      by_cases q2 : crs (sbt o.a e.a) (stp o) * w ≤ crs (stp e) (stp o) * w
      · rw [decide_eq_true q2, Bool.true_and] at h
        refine if_y (decide_eq_true q2) ?_
        (repeat walk_at "st")
        by_cases q3 : 0 ≤ crs (sbt o.a e.a) (stp e) * w
        · rw [decide_eq_true q3, Bool.true_and] at h
          refine if_y (decide_eq_true q3) ?_
          (repeat walk_at "st")
          refine f_mul (cmul_of 262 2 bT hw (by decide)) ?_
          (repeat walk_at "st")
          exact h
        · rw [decide_eq_false q3, Bool.false_and] at h
          refine if_n (by rw [decide_eq_false q3]; decide) ?_
          exact h
      · rw [decide_eq_false q2, Bool.false_and] at h
        refine if_n (by rw [decide_eq_false q2]; decide) ?_
        rw [decide_eq_false q2]
        exact h
    · rw [decide_eq_false q1, Bool.false_and, Bool.false_and] at h
      refine if_n (by rw [decide_eq_false q1]; decide) ?_
      (repeat walk_at "st")
      exact h
end



/-- a list, or a cell's list -/
inductive WL (κ : Kap) : D → List D → Prop
  | lst {xs : List D} : WL κ (.node .lst xs) xs
  | cell {n : Nat} {xs : List D} (e : κ n = some (.live .lst xs)) : WL κ (.cell n) xs
theorem WL.wk {κ : Kap} {d : D} {xs : List D} (h : WL κ d xs) : Wk κ d xs := by
  cases h with
  | lst => exact .lst
  | cell e => exact .cell e
theorem WL.mono {κ κ' : Kap} {d : D} {xs : List D} (h : WL κ d xs) (f : Fa κ κ') : WL κ' d xs := by
  cases h with
  | lst => exact .lst
  | cell e => exact .cell (f _ _ e)
def RwI (κ : Kap) (d : D) (rows : List (List Pt)) : Prop := ∃ xs, WL κ d xs ∧ xs.length = rows.length ∧ ∀ (i : Nat) (r : List Pt), rows[i]? = some r → ∃ e : D, xs[i]? = some e ∧ WL κ e (r.map prD)
theorem RwI.mono {κ κ' : Kap} {d : D} {rows : List (List Pt)} (h : RwI κ d rows) (f : Fa κ κ') : RwI κ' d rows := by
  obtain ⟨xs, w, l, q⟩ := h
  refine ⟨xs, w.mono f, l, fun i r hr => ?_⟩
  obtain ⟨e, a, b⟩ := q i r hr
  exact ⟨e, a, b.mono f⟩
section
variable {κ : Kap} {X : Str → List D → Kap → Prop} {Q : DQ}
theorem en_wl {κ0 κ : Kap} {d : D} {xs : List D} {QI : List D → (Kap → Prop) → Kap → Prop} (h : WL κ0 d xs) (f : Fa κ0 κ) (q : ∀ gd : Kap → Prop, (∀ κ', Fa κ0 κ' → gd κ') → QI (enumD 0 xs) gd κ) : eQ QI [d] κ := by
  cases h with
  | lst => exact en_N (q _ fun _ _ => trivial)
  | cell e => exact en_C (f _ _ e) (q _ fun κ' f' => f' _ _ e)
theorem ix_wl {d y : D} {xs : List D} {i : Nat} (h : WL κ d xs) (hy : xs[i]? = some y) (q : Q y κ) : fIx d (.int (i : Nat)) κ Q := by
  cases h with
  | lst => exact f_ixN hy q
  | cell e => exact f_ixC e hy q
def Bp (p : Pt) : Prop := p.1.natAbs < 2 ^ 128 ∧ p.2.natAbs < 2 ^ 128
theorem ledges_q {d : D} {rows : List (List Pt)} (R : RwI κ d rows) (h4 : rows.length ≤ 4) (hl : ∀ r ∈ rows, r.length ≤ 100)
    (h : ∀ m κ', κ m = none → κ' m = some (.live .lst ((allE 0 rows).map lD)) → Fa κ κ' → Q (.cell m) κ') : sp__law_edges [d] κ X Q := by
  (unfold sp__law_edges; refine s_sp rfl ?_; simp only [startD, List.map_cons, List.map_nil, List.length_cons, List.length_nil, Nat.zero_add, Nat.reduceAdd, Nat.reduceSub, List.replicate, List.cons_append, List.nil_append]; unfold b__law_edges)
  (repeat walk_at "st")
  refine e_nwt fun n1 hn1 => ?_
  obtain ⟨xs, w, hxl, hx⟩ := R
  (repeat walk_at "st")
  refine en_wl w (Fa.new hn1) fun gd hgd => ?_
  refine dl_ix (fun i δ κ' => (∃ a2 a3 a4 a5 a6 a7 a8, δ = [some d, some (.cell n1), a2, a3, a4, a5, a6, a7, a8]) ∧ Fa κ κ' ∧ κ' n1 = some (.live .lst ((allE 0 (rows.take i)).map lD))) ?_ ?_ ⟨⟨_, _, _, _, _, _, _, rfl⟩, Fa.new hn1, kset_same⟩
  · rintro δ κ' ⟨⟨a2, a3, a4, a5, a6, a7, a8, rfl⟩, f, e1⟩
    rw [enumD_len, hxl, List.take_length] at e1
    refine ⟨hgd _ f, ?_⟩
    (repeat walk_at "st")
    exact h n1 _ hn1 e1 f
  · rintro i e δ κ' L he hL ⟨⟨a2, a3, a4, a5, a6, a7, a8, rfl⟩, f, e1⟩
    have hil : i < rows.length := by
      have := (List.getElem?_eq_some_iff.mp he).1
      rw [enumD_len] at this
      omega
    obtain ⟨e', q1, w1⟩ := hx i rows[i] (List.getElem?_eq_getElem hil)
    have hrl := hl _ (List.getElem_mem hil)
    have htk : rows.take (i + 1) = rows.take i ++ [rows[i]] := by rw [List.take_succ, List.getElem?_eq_getElem hil]; rfl
    rw [htk] at hL
    generalize rows[i] = ps at w1 hrl hL
    have hsn : allE 0 (rows.take i ++ [ps]) = allE 0 (rows.take i) ++ edRow i ps := by
      rw [allE_snoc, List.length_take, Nat.min_eq_left (by omega), Nat.zero_add]
    rw [hsn] at hL
    have hfl := allE_len (rows.take i) 0 100 fun r hr => hl r (List.mem_of_mem_take hr)
    rw [List.length_take] at hfl
    rw [enumD_get, q1] at he
    cases he
    refine ⟨hgd _ f, ?_⟩
    show gTupD 2 _ (.node .tup [.int ((0 + i : Nat) : Int), e']) _ _ _ _
    rw [Nat.zero_add]
    (repeat walk_at "st")
    refine en_wl w1 f fun gd2 hgd2 => ?_
    refine dl_ix (fun j δ κ'' => ∃ acc : List (Nat × Pt × Pt), acc ++ eds (ps.headD (0, 0)) j (ps.drop j) = edOf i ps ∧ (∃ a5 a6 a7 a8, δ = [some d, some (.cell n1), some (.int (i : Nat)), some e', some (.int (acc.length : Nat)), a5, a6, a7, a8]) ∧
      Fa κ κ'' ∧ κ'' n1 = some (.live .lst ((allE 0 (rows.take i)).map lD ++ acc.zipIdx.map (fun x => lD (mkE i 0 x))))) ?_ ?_ ⟨[], rfl, ⟨_, _, _, _, rfl⟩, f, by rw [e1]; simp⟩
    · rintro δ κ'' ⟨acc, ha, ⟨b5, b6, b7, b8, rfl⟩, f3, e3⟩
      rw [enumD_len, List.length_map, List.drop_length] at ha
      have ha' : acc = edOf i ps := by
        rw [← ha]
        exact (List.append_nil acc).symm
      subst ha'
      refine ⟨hgd2 _ f3, hL _ _ ⟨⟨_, _, _, _, _, _, _, rfl⟩, f3, ?_⟩⟩
      rw [e3, List.map_append]
      unfold edRow
      rw [List.map_map]
      rfl
    · rintro j e δ κ'' L2 he hL2 ⟨acc, ha, ⟨b5, b6, b7, b8, rfl⟩, f3, e3⟩
      have hjl : j < ps.length := by
        have := (List.getElem?_eq_some_iff.mp he).1
        rw [enumD_len, List.length_map] at this
        exact this
      rw [enumD_get, List.getElem?_map, List.getElem?_eq_getElem hjl] at he
      have hdr := List.drop_eq_getElem_cons hjl
      have hnx := head_next (qs := ps) rfl hjl
      rw [hdr] at ha
      generalize ps[j] = p at he ha
      cases he
      change acc ++ (if (ps.drop (j + 1)).headD (ps.headD (0, 0)) ≠ p then (j, p, (ps.drop (j + 1)).headD (ps.headD (0, 0))) :: eds (ps.headD (0, 0)) (j + 1) (ps.drop (j + 1)) else eds (ps.headD (0, 0)) (j + 1) (ps.drop (j + 1))) = edOf i ps at ha
      generalize (ps.drop (j + 1)).headD (ps.headD (0, 0)) = y at ha hnx
      have hat : (ps.map prD)[(j + 1) % ps.length]? = some (prD y) := by rw [List.getElem?_map, hnx]; rfl
      have hfm : ((j : Int) + 1).fmod (ps.length : Int) = (((j + 1) % ps.length : Nat) : Int) := by
        rw [show ((j : Int) + 1) = ((j + 1 : Nat) : Int) from rfl, ← Int.ofNat_fmod]
      have hal : acc.length ≤ 100 := by
        have := congrArg List.length ha
        rw [List.length_append] at this
        have h1 := eds_len (f := ps.headD (0, 0)) ps 0
        unfold edOf at this
        omega
      refine ⟨hgd2 _ f3, ?_⟩
      show gTupD 2 _ (.node .tup [.int ((0 + j : Nat) : Int), prD p]) _ _ _ _
      rw [Nat.zero_add]
      unfold prD
      (repeat walk_at "st")
      refine f_lnW (w1.wk.mono f3) ?_
      rw [List.length_map]
      refine f_mod (by omega) ?_
      rw [hfm]
      refine ix_wl (w1.mono f3) hat ?_
      (repeat walk_at "st")
      refine ne_pr (p := y) (q := p) ?_
      (repeat walk_at "st")
      by_cases hy : y = p
      · rw [decide_eq_true hy]
        rw [if_neg (fun z => z hy)] at ha
        (repeat walk_at "st")
        exact hL2 _ _ ⟨acc, ha, ⟨_, _, _, _, rfl⟩, f3, e3⟩
      · rw [decide_eq_false hy]
        rw [if_pos hy] at ha
        unfold prD
        (repeat walk_at "st")
        refine isq_cell e3 ?_
        (repeat walk_at "st")
        refine f_app e3 (by rw [List.length_append, List.length_map, List.length_map, List.length_zipIdx]; omega) ?_
        (repeat walk_at "st")
        have ea : ((acc.length : Int) + 1) = (((acc ++ [(j, p, y)]).length : Nat) : Int) := by
          rw [List.length_append]
          rfl
        rw [ea]
        refine hL2 _ _ ⟨acc ++ [(j, p, y)], ?_, ⟨_, _, _, _, rfl⟩, f3.put hn1, ?_⟩
        · rw [List.append_assoc]
          exact ha
        · rw [kset_same, List.zipIdx_append, List.map_append, ← List.append_assoc]
          rw [Nat.zero_add]
          rfl
theorem row_filter (g g0 : Nat) (ps : List Pt) : (edRow g0 ps).filter (fun e => decide (e.g = g)) = if g0 = g then edRow g0 ps else [] := by
  have hg : ∀ e ∈ edRow g0 ps, e.g = g0 := fun e he => by
    obtain ⟨i, hi⟩ := List.mem_iff_getElem?.mp he
    exact (row_get hi).1
  by_cases h : g0 = g
  · rw [if_pos h]
    exact List.filter_eq_self.mpr fun e he => decide_eq_true ((hg e he).trans h)
  · rw [if_neg h]
    exact List.filter_eq_nil_iff.mpr fun e he => by
      rw [decide_eq_true_eq, hg e he]
      exact h
/-- how many edges a polygon has -/
theorem allE_filter : ∀ (rows : List (List Pt)) (g0 g : Nat), ((allE g0 rows).filter (fun e => decide (e.g = g))).length = if g0 ≤ g then (match rows[g - g0]? with | some ps => (edOf g ps).length | none => 0) else 0
  | [], g0, g => by simp [allE]
  | ps :: r, g0, g => by
    show ((edRow g0 ps ++ allE (g0 + 1) r).filter _).length = _
    rw [List.filter_append, List.length_append, row_filter, allE_filter r (g0 + 1) g]
    by_cases h : g0 = g
    · subst h
      rw [if_pos rfl, if_neg (by omega), if_pos (Nat.le_refl _), Nat.sub_self]
      show (edRow g0 ps).length + 0 = (edOf g0 ps).length
      rw [row_len, Nat.add_zero]
    · rw [if_neg h]
      by_cases h2 : g0 ≤ g
      · rw [if_pos (by omega), if_pos h2, show g - g0 = (g - (g0 + 1)) + 1 by omega]
        simp
      · rw [if_neg (by omega), if_neg h2]
        rfl
theorem allE_m : ∀ (rows : List (List Pt)) (g0 : Nat), ∀ e ∈ allE g0 rows, g0 ≤ e.g ∧ ∃ ps, rows[e.g - g0]? = some ps ∧ e.m = (edOf e.g ps).length
  | [], _, e, h => by simp [allE] at h
  | ps :: r, g0, e, h => by
    rcases List.mem_append.mp h with z | z
    · obtain ⟨i, hi⟩ := List.mem_iff_getElem?.mp z
      obtain ⟨a1, _, a3, _⟩ := row_get hi
      refine ⟨by omega, ps, ?_, ?_⟩
      · rw [a1, Nat.sub_self]
        rfl
      · rw [a3, a1]
    · obtain ⟨h1, qs, h2, h3⟩ := allE_m r (g0 + 1) e z
      refine ⟨by omega, qs, ?_, h3⟩
      rw [show e.g - g0 = (e.g - (g0 + 1)) + 1 by omega]
      exact h2
theorem allE_size {rows : List (List Pt)} {e : Ed} (h : e ∈ allE 0 rows) : ((allE 0 rows).filter (fun o => decide (o.g = e.g))).length = e.m ∧ e.g < rows.length := by
  obtain ⟨_, ps, h2, h3⟩ := allE_m rows 0 e h
  rw [allE_filter, if_pos (Nat.zero_le _), h2, h3]
  exact ⟨rfl, by have := (List.getElem?_eq_some_iff.mp h2).1; omega⟩
end



section
variable {κ : Kap} {X : Str → List D → Kap → Prop} {Q : DQ}
theorem eq_pr {p q : Pt} (h : Q (.bl (decide (p = q))) κ) : fEq (prD p) (prD q) κ Q := by
  refine ⟨_, _, pr_pd p, pr_pd q, (prP_sp p).shaped (by decide), (prP_sp q).shaped (by decide), ?_⟩
  show Q (.bl (PyData.eqv (prP p) (prP q))) κ
  rw [eqv_pr]
  exact h
theorem sbt_bm {p q : Pt} (h : Bp p) (h' : Bp q) : Bm (sbt p q) := by
  obtain ⟨h1, h2⟩ := h
  obtain ⟨h3, h4⟩ := h'
  exact ⟨by show (p.1 - q.1).natAbs < _; omega, by show (p.2 - q.2).natAbs < _; omega⟩
theorem bad_st {X : DX} {e o : Ed} {a0 a1 a2 a3 a7 a8 : Option D} {n : DEnv → Kap → Prop} {rt : DQ} {bk ct : DEnv → Kap → Prop} (b1 : Bp e.a ∧ Bp e.b) (b2 : Bp o.a ∧ Bp o.b)
    (h : n [a0, a1, a2, a3, some (lD e), some (lD o), some (.int (e.m : Nat)), some (.bl (R2 e o)), a8] κ) :
    (sIf (tAndD (tBl (dOp fEq (dOp fIx (dVar 4) (dC (.int 0))) (dOp fIx (dVar 5) (dC (.int 0))))) (tAndD (tBl (dOp fGtS (dVar 6) (dC (.int 2)))) (tBl (dOp fEq (dOp fIx (dVar 5) (dC (.int 4))) (dOp (fAdd false) (dOp fIx (dVar 4) (dC (.int 4))) (dC (.int 1))))))) (sAsg (dCall sp__law_folded [] (dCons (dVar 4) (dCons (dVar 5) dNil))) (gN 7)) (sIf (tAndD (tBl (dOp fEq (dOp fIx (dVar 4) (dC (.int 0))) (dOp fIx (dVar 5) (dC (.int 0))))) (tAndD (tBl (dOp fGtS (dVar 6) (dC (.int 2)))) (tBl (dOp fEq (dTup (dCons (dOp fIx (dVar 4) (dC (.int 4))) (dCons (dOp fIx (dVar 5) (dC (.int 4))) dNil))) (dTup (dCons (dC (.int 0)) (dCons (dOp fSub (dVar 6) (dC (.int 1))) dNil))))))) (sAsg (dCall sp__law_folded [] (dCons (dVar 5) (dCons (dVar 4) dNil))) (gN 7)) (sAsg (dCall sp__law_shared [] (dCons (dVar 4) (dCons (dVar 5) dNil))) (gN 7)))) [a0, a1, a2, a3, some (lD e), some (lD o), some (.int (e.m : Nat)), a7, a8] κ X ⟨n, rt, bk, ct⟩ := by
  have c1 : Bm (stp e) := sbt_bm b1.2 b1.1
  have c2 : Bm (stp o) := sbt_bm b2.2 b2.1
  have d1 : e.a.1.natAbs < 2 ^ 129 ∧ e.a.2.natAbs < 2 ^ 129 := by obtain ⟨⟨z1, z2⟩, _⟩ := b1; omega
  have d2 : o.a.1.natAbs < 2 ^ 129 ∧ o.a.2.natAbs < 2 ^ 129 := by obtain ⟨⟨z1, z2⟩, _⟩ := b2; omega
  unfold R2 at h
  unfold lD at h ⊢
  refine s_if ?_
  refine tand_q (x := decide ((e.g : Int) = (o.g : Int))) (y := (decide ((2 : Int) < (e.m : Int)) && decide ((o.k : Int) = (e.k : Int) + 1))) (fun P' hp => ?_) (fun P' hp => ?_) ?_
  · (repeat walk_at "st")
    exact hp
  · refine tand_q (x := decide ((2 : Int) < (e.m : Int))) (y := decide ((o.k : Int) = (e.k : Int) + 1)) (fun P' hp => ?_) (fun P' hp => ?_) hp
    · (repeat walk_at "st")
      exact hp
    · (repeat walk_at "st")
      refine f_t4 ?_
      (repeat walk_at "st")
      refine f_t4 ?_
      (repeat walk_at "st")
      exact hp
  have k1 : (decide ((e.g : Int) = (o.g : Int)) && (decide ((2 : Int) < (e.m : Int)) && decide ((o.k : Int) = (e.k : Int) + 1))) = decide (e.g = o.g ∧ 2 < e.m ∧ o.k = e.k + 1) := by
    rw [Bool.eq_iff_iff, Bool.and_eq_true, Bool.and_eq_true, decide_eq_true_eq, decide_eq_true_eq, decide_eq_true_eq, decide_eq_true_eq]
    omega
  rw [k1]
  by_cases q1 : e.g = o.g ∧ 2 < e.m ∧ o.k = e.k + 1
  · rw [if_pos q1] at h
    refine if_y (decide_eq_true q1) ?_
    (repeat walk_at "st")
    refine folded_q (e := e) (o := o) c1 c2 ?_
    (repeat walk_at "st")
    exact h
  rw [if_neg q1] at h
  refine if_n (by rw [decide_eq_false q1]; decide) ?_
  refine s_if ?_
  refine tand_q (x := decide ((e.g : Int) = (o.g : Int))) (y := (decide ((2 : Int) < (e.m : Int)) && decide ((((e.k : Int), (o.k : Int)) : Pt) = (0, (e.m : Int) - 1)))) (fun P' hp => ?_) (fun P' hp => ?_) ?_
  · (repeat walk_at "st")
    exact hp
  · refine tand_q (x := decide ((2 : Int) < (e.m : Int))) (y := decide ((((e.k : Int), (o.k : Int)) : Pt) = (0, (e.m : Int) - 1))) (fun P' hp => ?_) (fun P' hp => ?_) hp
    · (repeat walk_at "st")
      exact hp
    · (repeat walk_at "st")
      refine f_t4 ?_
      (repeat walk_at "st")
      refine f_t4 ?_
      (repeat walk_at "st")
      refine eq_pr (p := ((e.k : Int), (o.k : Int))) (q := (0, (e.m : Int) - 1)) ?_
      (repeat walk_at "st")
      exact hp
  have k2 : (decide ((e.g : Int) = (o.g : Int)) && (decide ((2 : Int) < (e.m : Int)) && decide ((((e.k : Int), (o.k : Int)) : Pt) = (0, (e.m : Int) - 1)))) = decide (e.g = o.g ∧ 2 < e.m ∧ e.k = 0 ∧ o.k + 1 = e.m) := by
    rw [Bool.eq_iff_iff, Bool.and_eq_true, Bool.and_eq_true, decide_eq_true_eq, decide_eq_true_eq, decide_eq_true_eq, decide_eq_true_eq, Prod.mk.injEq]
    omega
  rw [k2]
  by_cases q2 : e.g = o.g ∧ 2 < e.m ∧ e.k = 0 ∧ o.k + 1 = e.m
  · rw [if_pos q2] at h
    refine if_y (decide_eq_true q2) ?_
    (repeat walk_at "st")
    refine folded_q (e := o) (o := e) c2 c1 ?_
    (repeat walk_at "st")
    exact h
  rw [if_neg q2] at h
  refine if_n (by rw [decide_eq_false q2]; decide) ?_
  (repeat walk_at "st")
  refine shared_q (e := e) (o := o) c1 c2 d1 d2 ?_
  (repeat walk_at "st")
  exact h
theorem ldue_q {d : D} {rows : List (List Pt)} (R : RwI κ d rows) (h4 : rows.length ≤ 4) (hl : ∀ r ∈ rows, r.length ≤ 100) (hp : ∀ r ∈ rows, ∀ p ∈ r, Bp p)
    (h : ∀ κ', Fa κ κ' → Q (resD (fstBad R2 (allE 0 rows))) κ') : sp__law_due [d] κ X Q := by
  (unfold sp__law_due; refine s_sp rfl ?_; simp only [startD, List.map_cons, List.map_nil, List.length_cons, List.length_nil, Nat.zero_add, Nat.reduceAdd, Nat.reduceSub, List.replicate, List.cons_append, List.nil_append]; unfold b__law_due)
  (repeat walk_at "st")
  refine ledges_q R h4 hl fun m κ1 hm em f1 => ?_
  have bg : ∀ e ∈ allE 0 rows, Bp e.a ∧ Bp e.b := fun e he => by
    obtain ⟨qs, hq, ha, hb⟩ := allE_mem _ _ e he
    exact ⟨hp qs hq _ ha, hp qs hq _ hb⟩
  have hsz : ∀ e ∈ allE 0 rows, ((allE 0 rows).filter (fun o => decide (o.g = e.g))).length = e.m ∧ e.g < rows.length := fun e he => allE_size he
  have hL : (allE 0 rows).length ≤ 400 := by
    have := allE_len rows 0 100 hl
    omega
  generalize allE 0 rows = L at em h bg hsz hL
  obtain ⟨xs, w, hxl, _⟩ := R
  (repeat walk_at "st")
  refine f_lnW (w.wk.mono f1) ?_
  (repeat walk_at "st")
  intro n hn
  have hmn : m ≠ n := kne em hn
  refine lcLoop_ix (fun g acc κ2 => acc = ((List.range g).map fun g => D.int (((L.filter (fun o => decide (o.g = g))).length : Nat) : Int)) ∧ κ2 n = some (.live .lst acc) ∧ Fa κ1 κ2) ?_ ?_ ⟨rfl, kset_same, Fa.new hn⟩
  · rintro acc κ2 ⟨rfl, e2, f2⟩
    rw [rangeD_len, Int.toNat_natCast, hxl] at e2 ⊢
    refine ⟨trivial, e2, ?_⟩
    have f3 : Fa κ1 (kset κ2 n .dead) := f2.put hn
    generalize kset κ2 n .dead = κ3 at f3
    generalize hS : (List.range rows.length).map (fun g => D.int (((L.filter (fun o => decide (o.g = g))).length : Nat) : Int)) = S
    have hSg : ∀ e ∈ L, S[e.g]? = some (.int (e.m : Nat)) := fun e he => by
      obtain ⟨h1, h2⟩ := hsz e he
      rw [← hS, List.getElem?_map, List.getElem?_range h2]
      show some (D.int _) = _
      rw [h1]
    have em3 := f3 _ _ em
    have f : Fa κ κ3 := f1.trans f3
    (repeat walk_at "st")
    refine en_C em3 ?_
    refine dl_ix (fun i δ κ' => (∃ a3 a4 a5 a6 a7 a8, δ = [some d, some (.cell m), some (.node .lst S), a3, a4, a5, a6, a7, a8]) ∧ Fa κ κ' ∧ κ' m = some (.live .lst (L.map lD)) ∧ fstBad R2 L = fstBad R2 (L.drop i)) ?_ ?_ ⟨⟨_, _, _, _, _, _, rfl⟩, f, em3, rfl⟩
    · rintro δ κ' ⟨⟨a3, a4, a5, a6, a7, a8, rfl⟩, f4, e4, hb⟩
      rw [enumD_len, List.length_map, List.drop_length] at hb
      refine ⟨e4, ?_⟩
      (repeat walk_at "st")
      have := h κ' f4
      rw [hb] at this
      exact this
    · rintro i e δ κ' L1 he hL1 ⟨⟨a3, a4, a5, a6, a7, a8, rfl⟩, f4, e4, hb⟩
      rw [enumD_get, List.getElem?_map, Option.map_map, Option.map_eq_some_iff] at he
      obtain ⟨e', he', rfl⟩ := he
      have hil := (List.getElem?_eq_some_iff.mp he').1
      have hdr := List.drop_eq_getElem_cons hil
      have e'' : L[i] = e' := Option.some.inj ((List.getElem?_eq_getElem hil).symm.trans he')
      rw [e''] at hdr
      have hem := List.mem_of_getElem? he'
      have bge := bg e' hem
      have hsg := hSg e' hem
      refine ⟨e4, ?_⟩
      show gTupD 2 _ (.node .tup [.int ((0 + i : Nat) : Int), lD e']) _ _ _ _
      rw [Nat.zero_add]
      (repeat walk_at "st")
      refine sl_C e4 ?_
      rw [show ((i : Int) + 1) = ((i + 1 : Nat) : Int) from rfl, cut_lo (by rw [List.length_map]; omega), ← List.map_drop]
      unfold fNew
      dsimp only
      refine q_L ?_
      rw [hdr] at hb
      change _ = (match (L.drop (i + 1)).find? (R2 e') with
        | some o => some (e', o)
        | none => fstBad R2 (L.drop (i + 1))) at hb
      generalize hl' : L.drop (i + 1) = l at hb hL1
      have bgl : ∀ o ∈ l, Bp o.a ∧ Bp o.b := fun o ho => bg o (by rw [← hl'] at ho; exact List.mem_of_mem_drop ho)
      refine dl_ix (fun j δ κ'' => (∃ a5 a6 a7 a8, δ = [some d, some (.cell m), some (.node .lst S), some (.int (i : Nat)), some (lD e'), a5, a6, a7, a8]) ∧ Fa κ κ'' ∧ κ'' m = some (.live .lst (L.map lD)) ∧ l.find? (R2 e') = (l.drop j).find? (R2 e')) ?_ ?_ ⟨⟨_, _, _, _, rfl⟩, f4, e4, rfl⟩
      · rintro δ κ'' ⟨⟨b5, b6, b7, b8, rfl⟩, f5, e5, hf⟩
        rw [List.length_map, List.drop_length] at hf
        refine ⟨trivial, hL1 _ _ ⟨⟨_, _, _, _, _, _, rfl⟩, f5, e5, ?_⟩⟩
        rw [hf] at hb
        exact hb
      · rintro j o δ κ'' L2 ho hL2 ⟨⟨b5, b6, b7, b8, rfl⟩, f5, e5, hf⟩
        rw [List.getElem?_map, Option.map_eq_some_iff] at ho
        obtain ⟨o', ho', rfl⟩ := ho
        have hjl := (List.getElem?_eq_some_iff.mp ho').1
        have hdj := List.drop_eq_getElem_cons hjl
        have ej : l[j] = o' := Option.some.inj ((List.getElem?_eq_getElem hjl).symm.trans ho')
        rw [ej] at hdj
        have bgo := bgl o' (List.mem_of_getElem? ho')
        rw [hdj, List.find?_cons] at hf
        refine ⟨trivial, ?_⟩
        refine g_n5 ?_
        refine s_seq ?_
        refine s_asg ?_
        have gx : ∀ {x : Ed} {P : DQ}, P (.int (x.g : Nat)) κ'' → fIx (lD x) (.int 0) κ'' P := fun hq => ⟨_, at_nat (n := 0) rfl, hq⟩
        have gy : ∀ {x : Ed} {P : DQ}, P (.int (x.at' : Nat)) κ'' → fIx (lD x) (.int 1) κ'' P := fun hq => ⟨_, at_nat (n := 1) rfl, hq⟩
        (repeat walk_at "st")
        refine gx ?_
        refine f_ixN hsg ?_
        refine g_n6 ?_
        refine s_seq ?_
        refine bad_st bge bgo ?_
        cases hR : R2 e' o' with
        | true =>
          rw [hR] at hf
          rw [hf] at hb
          have hq := h κ'' f5
          rw [hb] at hq
          (repeat walk_at "st")
          refine gx ?_
          (repeat walk_at "st")
          refine gy ?_
          (repeat walk_at "st")
          refine gx ?_
          (repeat walk_at "st")
          refine gy ?_
          (repeat walk_at "st")
          exact hq
        | false =>
          rw [hR] at hf
          (repeat walk_at "st")
          exact hL2 _ _ ⟨⟨_, _, _, _, rfl⟩, f5, e5, hf⟩
  · rintro g e acc κ2 L2 he hL2 ⟨rfl, e2, f2⟩
    obtain ⟨hg, rfl⟩ := rangeD_get he
    rw [Int.zero_add]
    refine ⟨trivial, ?_⟩
    rw [bi_inl]
    simp only [dwipe, List.set_cons_zero, List.set_cons_succ]
    have em2 := f2 _ _ em
    (repeat walk_at "st")
    refine q_cell em2 ?_
    intro n2 hn2
    have hnn : n ≠ n2 := kne e2 hn2
    refine lcLoop_ix (fun j acc κ3 => acc = ((L.take j).filter (fun o => decide (o.g = g))).map lD ∧ κ3 n2 = some (.live .lst acc) ∧ Fa κ2 κ3) ?_ ?_ ⟨rfl, kset_same, Fa.new hn2⟩
    · rintro acc κ3 ⟨rfl, e3, f3⟩
      rw [List.length_map, List.take_length] at e3 ⊢
      refine ⟨f3 _ _ em2, e3, ?_⟩
      have f4 := f3.put (κ := κ2) (c := .dead) hn2
      have e5 := f4 _ _ e2
      generalize kset κ3 n2 .dead = κ4 at f4 e5
      (repeat walk_at "st")
      refine ⟨e5, by rw [List.length_map, List.length_range]; unfold sizeLine; omega, hL2 _ _ ⟨?_, kset_same, (f2.trans f4).put hn⟩⟩
      rw [List.range_succ, List.map_append, List.length_map]
      rfl
    · rintro j o acc κ3 L3 ho hL3 ⟨rfl, e3, f3⟩
      rw [List.getElem?_map, Option.map_eq_some_iff] at ho
      obtain ⟨o', ho', rfl⟩ := ho
      have hjl := (List.getElem?_eq_some_iff.mp ho').1
      have em3 := f3 _ _ em2
      have htk : L.take (j + 1) = L.take j ++ [o'] := by rw [List.take_succ, ho']; rfl
      rw [htk, List.filter_append] at hL3
      have hfl : ((L.take j).filter (fun o => decide (o.g = g))).length ≤ 400 := by
        have h1 := List.length_filter_le (fun o => decide (o.g = g)) (L.take j)
        rw [List.length_take] at h1
        omega
      refine ⟨em3, ?_⟩
      rw [bi_inl]
      simp only [dwipe, List.set_cons_zero, List.set_cons_succ]
      have gx : ∀ {x : Ed} {P : DQ}, P (.int (x.g : Nat)) κ3 → fIx (lD x) (.int 0) κ3 P := fun hq => ⟨_, at_nat (n := 0) rfl, hq⟩
      refine t_bl ?_
      refine e_op ?_
      (repeat walk_at "st")
      refine gx ?_
      (repeat walk_at "st")
      by_cases hog : (o'.g : Int) = (g : Int)
      · refine if_y (decide_eq_true hog) ?_
        (repeat walk_at "st")
        refine ⟨e3, by rw [List.length_map]; unfold sizeLine; omega, hL3 _ _ ⟨?_, kset_same, f3.put hn2⟩⟩
        rw [List.map_append]
        rw [List.filter_cons_of_pos (by rw [decide_eq_true_eq]; omega)]
        rfl
      · refine if_n (by rw [decide_eq_false hog]; decide) ?_
        refine hL3 _ _ ⟨?_, e3, f3⟩
        rw [List.filter_cons_of_neg (by rw [decide_eq_true_eq]; omega)]
        simp
end



theorem eds_mapI {sc : Pt → Pt} {f : Pt} : ∀ (r : List Pt) (i : Nat), (∀ p ∈ f :: r, ∀ q ∈ f :: r, sc p = sc q → p = q) → eds (sc f) i (r.map sc) = (eds f i r).map fun e => (e.1, sc e.2.1, sc e.2.2)
  | [], _, _ => rfl
  | x :: r, i, inj => by
    have hh : (r.map sc).headD (sc f) = sc (r.headD f) := by cases r <;> rfl
    have hm : r.headD f ∈ f :: x :: r := by
      cases r with
      | nil => exact List.mem_cons_self
      | cons y r => exact List.mem_cons_of_mem _ (List.mem_cons_of_mem _ List.mem_cons_self)
    have hx : x ∈ f :: x :: r := List.mem_cons_of_mem _ List.mem_cons_self
    have inj2 : ∀ p ∈ f :: r, ∀ q ∈ f :: r, sc p = sc q → p = q := fun p hp q hq => inj p ((List.mem_cons.mp hp).elim (fun e => e ▸ List.mem_cons_self) fun h => List.mem_cons_of_mem _ (List.mem_cons_of_mem _ h)) q ((List.mem_cons.mp hq).elim (fun e => e ▸ List.mem_cons_self) fun h => List.mem_cons_of_mem _ (List.mem_cons_of_mem _ h))
    show (if (r.map sc).headD (sc f) ≠ sc x then (i, sc x, (r.map sc).headD (sc f)) :: eds (sc f) (i + 1) (r.map sc) else eds (sc f) (i + 1) (r.map sc)) = (if r.headD f ≠ x then (i, x, r.headD f) :: eds f (i + 1) r else eds f (i + 1) r).map _
    rw [hh, eds_mapI r (i + 1) inj2]
    by_cases h : r.headD f = x
    · rw [if_neg (show ¬(sc (r.headD f) ≠ sc x) from fun z => z (by rw [h])), if_neg (show ¬(r.headD f ≠ x) from fun z => z h)]
    · rw [if_pos (show sc (r.headD f) ≠ sc x from fun z => h (inj _ hm _ hx z)), if_pos (show r.headD f ≠ x from h)]
      rfl
def scE (sc : Pt → Pt) (e : Ed) : Ed := { e with a := sc e.a, b := sc e.b }
theorem edOf_map {sc : Pt → Pt} {g : Nat} {ps : List Pt} (inj : ∀ p ∈ ps, ∀ q ∈ ps, sc p = sc q → p = q) : edOf g (ps.map sc) = (edOf g ps).map fun e => (e.1, sc e.2.1, sc e.2.2) := by
  cases ps with
  | nil => rfl
  | cons x r =>
    unfold edOf
    show eds (sc x) 0 ((x :: r).map sc) = _
    refine eds_mapI (x :: r) 0 fun p hp q hq => inj p ?_ q ?_
    · exact (List.mem_cons.mp hp).elim (fun e => e ▸ List.mem_cons_self) id
    · exact (List.mem_cons.mp hq).elim (fun e => e ▸ List.mem_cons_self) id
theorem row_map {sc : Pt → Pt} {g : Nat} {ps : List Pt} (inj : ∀ p ∈ ps, ∀ q ∈ ps, sc p = sc q → p = q) : edRow g (ps.map sc) = (edRow g ps).map (scE sc) := by
  unfold edRow
  rw [edOf_map inj, List.length_map, List.zipIdx_map, List.map_map, List.map_map]
  rfl
theorem allE_map {sc : Pt → Pt} : ∀ (rows : List (List Pt)) (g : Nat), (∀ r ∈ rows, ∀ p ∈ r, ∀ q ∈ r, sc p = sc q → p = q) → allE g (rows.map fun r => r.map sc) = (allE g rows).map (scE sc)
  | [], _, _ => rfl
  | ps :: r, g, inj => by
    show edRow g (ps.map sc) ++ allE (g + 1) (r.map fun r => r.map sc) = (edRow g ps ++ allE (g + 1) r).map (scE sc)
    rw [row_map (inj ps List.mem_cons_self), allE_map r (g + 1) fun q hq => inj q (List.mem_cons_of_mem _ hq), List.map_append]
theorem find_map {sc : Pt → Pt} {e : Ed} : ∀ l : List Ed, (l.map (scE sc)).find? (R1 id (scE sc e)) = (l.find? (R1 sc e)).map (scE sc)
  | [] => rfl
  | o :: l => by
    have e1 : R1 id (scE sc e) (scE sc o) = R1 sc e o := rfl
    rw [List.map_cons, List.find?_cons, List.find?_cons, e1, find_map l]
    cases R1 sc e o <;> rfl
theorem bad_map {sc : Pt → Pt} : ∀ L : List Ed, resD (fstBad (R1 id) (L.map (scE sc))) = resD (fstBad (R1 sc) L)
  | [] => rfl
  | e :: r => by
    have ih := bad_map (sc := sc) r
    show resD (match (r.map (scE sc)).find? (R1 id (scE sc e)) with
      | some o => some (scE sc e, o)
      | none => fstBad (R1 id) (r.map (scE sc))) = resD (match r.find? (R1 sc e) with
      | some o => some (e, o)
      | none => fstBad (R1 sc) r)
    rw [find_map]
    cases r.find? (R1 sc e) with
    | none => exact ih
    | some o => rfl
theorem bad_congr {R S : Ed → Ed → Bool} : ∀ {L : List Ed}, L.Pairwise (fun e o => R e o = S e o) → fstBad R L = fstBad S L
  | [], _ => rfl
  | e :: r, h => by
    rw [List.pairwise_cons] at h
    have e1 : r.find? (R e) = r.find? (S e) := by
      have : ∀ l : List Ed, (∀ o ∈ l, R e o = S e o) → l.find? (R e) = l.find? (S e) := fun l => by
        induction l with
        | nil => intro _; rfl
        | cons o l ih =>
          intro hl
          rw [List.find?_cons, List.find?_cons, hl o List.mem_cons_self, ih fun o' ho => hl o' (List.mem_cons_of_mem _ ho)]
      exact this r fun o ho => h.1 o ho
    unfold fstBad
    rw [e1, bad_congr h.2]
/-- the program's answer of the grown scene is the law's of the plain one -/
theorem first_eq {B c : Int} {t : Pt} {sc : Pt → Pt} (hB : 0 < B) (hc : 0 < c) {rows : List (List Pt)} (h : ∀ r ∈ rows, ∀ p ∈ r, Aff B c t p (sc p)) :
    resD (fstBad (R1 id) (allE 0 (rows.map fun r => r.map sc))) = resD (fstBad R2 (allE 0 rows)) := by
  rw [allE_map rows 0 fun r hr p hp q hq e => (h r hr p hp).inj hc (by rw [e]; exact h r hr q hq), bad_map]
  congr 1
  refine bad_congr ?_
  have at_ : ∀ e ∈ allE 0 rows, Aff B c t e.a (sc e.a) ∧ Aff B c t e.b (sc e.b) := fun e he => by
    obtain ⟨r, hr, ha, hb⟩ := allE_mem rows 0 e he
    exact ⟨h r hr _ ha, h r hr _ hb⟩
  refine List.Pairwise.imp_of_mem (fun {e o} he ho G => ?_) (allE_pw rows 0)
  exact R12 hB hc G (at_ e he).1 (at_ e he).2 (at_ o ho).1 (at_ o ho).2
def mvP (t : Pt) (g : Int) (p : Pt) : Pt := ((p.1 + t.1) * g, (p.2 + t.2) * g)
section
variable {κ : Kap} {X : Str → List D → Kap → Prop} {Q : DQ}
theorem first_i {b : Int} {d : D} {t : Pt} {g : Int} {rows : List (List Pt)} (R : Rows κ d (rows.map fun ps => ps.map fun p => tq b (mvP t g p))) (hb0 : 0 < b) (hb : b ≤ 64) (hg : 0 < g) (h1 : 1 ≤ rows.length) (h4 : rows.length ≤ 4) (hr : ∀ ps ∈ rows, 1 ≤ ps.length ∧ ps.length ≤ 100) (hs : ∀ ps ∈ rows, ∀ p ∈ ps, Bp (mvP t g p))
    (h : ∀ κ', Fa κ κ' → Q (resD (fstBad R2 (allE 0 rows))) κ') : sp_first_crossing [d] κ X Q := by
  have hb2 : b.natAbs < 2 ^ 128 := by omega
  refine first_q (B := b.natAbs) R (by omega) (by omega) (by rw [List.length_map]; exact h1) (by rw [List.length_map]; exact h4) (fun r hr' => ?_) (fun r hr' p hp => ?_) (fun r hr' p hp => ?_) fun M κ' m0 m1 m2 f => ?_
  · obtain ⟨ps, hps, rfl⟩ := List.mem_map.mp hr'
    rw [List.length_map]
    exact hr ps hps
  · obtain ⟨ps, hps, rfl⟩ := List.mem_map.mp hr'
    obtain ⟨q, hq, rfl⟩ := List.mem_map.mp hp
    exact ⟨den_dvd hb0, den_dvd hb0⟩
  · obtain ⟨ps, hps, rfl⟩ := List.mem_map.mp hr'
    obtain ⟨q, hq, rfl⟩ := List.mem_map.mp hp
    have := hs ps hps q hq
    exact ⟨(Sz.divInt (by omega) this.1 hb2).mono (by decide), (Sz.divInt (by omega) this.2 hb2).mono (by decide)⟩
  · have em : (rows.map fun ps => ps.map fun p => tq b (mvP t g p)).map (fun r => r.map (wP M)) = rows.map fun r => r.map fun p => wP M (tq b (mvP t g p)) := by
      rw [List.map_map]
      refine List.map_congr_left fun ps _ => ?_
      show (ps.map fun p => tq b (mvP t g p)).map (wP M) = _
      rw [List.map_map]
      rfl
    rw [em, first_eq (B := b) (c := (M : Int) * g) (t := t) hb0 (Int.mul_pos (by omega) hg) fun ps hps p hp => ?_]
    · exact h κ' f
    · have hd := m2 _ (List.mem_map.mpr ⟨ps, hps, rfl⟩) _ (List.mem_map.mpr ⟨p, hp, rfl⟩)
      have e1 := whole_mul hb0 hd.1
      have e2 := whole_mul hb0 hd.2
      refine ⟨?_, ?_⟩
      · show b * ((Rat.divInt ((p.1 + t.1) * g) b).num * (M : Int).fdiv (Rat.divInt ((p.1 + t.1) * g) b).den) = (M : Int) * g * (p.1 + t.1)
        rw [Int.mul_comm b]
        refine e1.trans ?_
        show (p.1 + t.1) * g * (M : Int) = _
        grind
      · show b * ((Rat.divInt ((p.2 + t.2) * g) b).num * (M : Int).fdiv (Rat.divInt ((p.2 + t.2) * g) b).den) = (M : Int) * g * (p.2 + t.2)
        rw [Int.mul_comm b]
        refine e2.trans ?_
        show (p.2 + t.2) * g * (M : Int) = _
        grind
end



theorem e_thr {a : DE} {δ : DEnv} {κ : Kap} {X : DX} {Q : DQ} (R : D → Kap → Prop) (h1 : ∀ Q' : DQ, (∀ d κ', R d κ' → Q' d κ') → a δ κ X Q') (h2 : ∀ d κ', R d κ' → Q d κ') : a δ κ X Q := h1 Q h2
def Sx (p : Pt) : Prop := p.1.natAbs < 2 ^ 10 ∧ p.2.natAbs < 2 ^ 10
def W16 : List Pt := [(1, 0), (3, 1), (2, 2), (1, 3), (0, 1), (-1, 3), (-2, 2), (-3, 1), (-1, 0), (-3, -1), (-2, -2), (-1, -3), (0, -1), (1, -3), (2, -2), (3, -1)]
def trD (x : Pt × Int) : D := .node .tup [.int x.1.1, .int x.1.2, .int x.2]
theorem W16_sm : ∀ p ∈ W16, p.1.natAbs ≤ 3 ∧ p.2.natAbs ≤ 3 := by decide
section
variable {κ : Kap} {X : Str → List D → Kap → Prop} {Q : DQ}
theorem ad_wl {m : Bool} {x y : D} {xs ys : List D} (hx : WL κ x xs) (hy : WL κ y ys) (hl : xs.length + ys.length ≤ sizeLine) (h : fNew m .lst (xs ++ ys) κ Q) : fAdd m x y κ Q := by
  have vx : view x κ = some (.lst, xs) := by
    cases hx with
    | lst => rfl
    | cell e => exact vw_cell e
  have vy : view y κ = some (.lst, ys) := by
    cases hy with
    | lst => rfl
    | cell e => exact vw_cell e
  cases hx with
  | lst =>
    cases hy with
    | lst => exact ⟨hl, h⟩
    | cell e =>
      unfold fAdd
      dsimp only
      rw [vx, vy]
      exact ⟨hl, h⟩
  | cell e' =>
    cases hy with
    | lst =>
      unfold fAdd
      dsimp only
      rw [vx, vy]
      exact ⟨hl, h⟩
    | cell e =>
      unfold fAdd
      dsimp only
      rw [vx, vy]
      exact ⟨hl, h⟩
theorem round_q {b m : Nat} (hB : By b m κ) (hm : m + 60 ≤ 2 ^ 20) (h : ∀ (n : Nat) (κ' : Kap) (ps : List Pt), κ n = none → n ≠ b → κ' n = some (.live .lst (ps.map prD)) → (1 ≤ ps.length ∧ ps.length ≤ 16) → (∀ p ∈ ps, Sx p) → By b (m + 60) κ' → Fr b κ κ' → Q (.cell n) κ') : sp__law_round [.cell b] κ X Q := by
  (unfold sp__law_round; refine s_sp rfl ?_; simp only [startD, List.map_cons, List.map_nil, List.length_cons, List.length_nil, Nat.zero_add, Nat.reduceAdd, Nat.reduceSub, List.replicate, List.cons_append, List.nil_append]; unfold b__law_round)
  refine s_seq ?_
  refine s_asg ?_
  (repeat walk_at "st")
  refine take_spec hB (by omega) (by decide) (by decide) fun t1 κ1 t10 t11 B1 f1 => ?_
  (repeat walk_at "st")
  refine take_spec B1 (by omega) (by decide) (by decide) fun t2 κ2 t20 t21 B2 f2 => ?_
  (repeat walk_at "st")
  refine take_spec B2 (by omega) (by decide) (by decide) fun t3 κ3 _ _ B3 f3 => ?_
  have f03 := f1.trans (f2.trans f3)
  clear f1 f2 f3 B1 B2
  (repeat walk_at "st")
  refine i_d (fun h0 => ?_) fun h0 => ?_
  · (repeat walk_at "st")
    intro n hn
    have hnb := B3.ne hn
    refine lcLoop_ix (fun j acc κ' => ∃ qs : List Pt, acc = qs.map prD ∧ (∀ q ∈ qs, q.1.natAbs ≤ 3 ∧ q.2.natAbs ≤ 3) ∧ qs.length ≤ j ∧ (0 < j → 1 ≤ qs.length) ∧ κ' n = some (.live .lst acc) ∧ By b (m + 3 + j) κ' ∧ Fr b κ3 κ') ?_ ?_ ⟨[], rfl, fun q hq => absurd hq List.not_mem_nil, Nat.le_refl _, fun z => absurd z (by omega), kset_same, B3.set hnb, Fr.set hn⟩
    · rintro acc κ4 ⟨qs, rfl, hq, hl, hl1, e4, B4, f4⟩
      rw [enumD_len] at hl hl1 B4
      change qs.length ≤ 16 at hl
      change 0 < 16 → _ at hl1
      change By b (m + 3 + 16) κ4 at B4
      refine ⟨trivial, e4, ?_⟩
      have f5 : Fr b κ (kset κ4 n .dead) := f03.trans (f4.put hn)
      have B5 : By b (m + 19) (kset κ4 n .dead) := B4.set hnb
      generalize kset κ4 n .dead = κ5 at f5 B5
      clear e4 B4 f4 hn hnb B3
      (repeat walk_at "st")
      intro n1 hn1
      have hnb1 := B5.ne hn1
      refine lcLoop_ix (fun j acc κ' => ∃ ts : List (Pt × Int), acc = ts.map trD ∧ (∀ q ∈ ts, (q.1.1.natAbs ≤ 3 ∧ q.1.2.natAbs ≤ 3) ∧ 1 ≤ q.2 ∧ q.2 ≤ 4) ∧ ts.length = j ∧ κ' n1 = some (.live .lst acc) ∧ By b (m + 19 + j) κ' ∧ Fr b κ5 κ') ?_ ?_ ⟨[], rfl, fun q hq => absurd hq List.not_mem_nil, rfl, kset_same, B5.set hnb1, Fr.set hn1⟩
      · rintro acc κ6 ⟨ts, rfl, ht, htl, e6, B6, f6⟩
        rw [List.length_map] at htl B6
        refine ⟨trivial, e6, ?_⟩
        have f7 : Fr b κ (kset κ6 n1 .dead) := f5.trans (f6.put hn1)
        have B7 : By b (m + 35) (kset κ6 n1 .dead) := (B6.set hnb1).mono (by omega)
        generalize kset κ6 n1 .dead = κ7 at f7 B7
        clear e6 B6 f6 hn1 hnb1 B5 f5
        refine q_L ?_
        intro n2 hn2
        have hnb2 := B7.ne hn2
        have hn20 : κ n2 = none := by
          cases e : κ n2 with
          | none => rfl
          | some c => rw [f7 _ _ hnb2 e] at hn2; cases hn2
        refine lcLoop_ix (fun j acc κ' => ∃ ps : List Pt, acc = ps.map prD ∧ (∀ p ∈ ps, Sx p) ∧ ps.length = j ∧ κ' n2 = some (.live .lst acc) ∧ By b (m + 35) κ' ∧ Fr b κ7 κ') ?_ ?_ ⟨[], rfl, fun q hq => absurd hq List.not_mem_nil, rfl, kset_same, B7.set hnb2, Fr.set hn2⟩
        · rintro acc κ8 ⟨ps, rfl, hp, hpl, e8, B8, f8⟩
          rw [List.length_map] at hpl
          refine ⟨trivial, e8, ?_⟩
          exact h n2 κ8 ps hn20 hnb2 e8 (by have := hl1 (by decide); omega) hp (B8.mono (by omega)) (f7.trans f8)
        · rintro j e acc κ8 L he hL ⟨ps, rfl, hp, hpl, e8, B8, f8⟩
          rw [List.getElem?_map, Option.map_eq_some_iff] at he
          obtain ⟨⟨⟨x, y⟩, f⟩, hx, rfl⟩ := he
          obtain ⟨⟨x3, y3⟩, f1, f4⟩ := ht _ (List.mem_of_getElem? hx)
          dsimp only at x3 y3 f1 f4
          have hjl := (List.getElem?_eq_some_iff.mp hx).1
          have b1 := mul_bd (i := x) (j := f) (a := 2) (b := 3) (by omega) (by omega)
          have b2 := mul_bd (i := y) (j := f) (a := 2) (b := 3) (by omega) (by omega)
          refine ⟨trivial, ?_⟩
          unfold trD
          rw [bi_inr rfl]
          simp only [dwipe, List.set_cons_zero, List.set_cons_succ]
          (repeat walk_at "st")
          refine ⟨e8, by rw [List.length_map]; unfold sizeLine; omega, hL _ _ ⟨ps ++ [(t1 * 3 + x * f, t2 * 3 + y * f)], by rw [List.map_append]; rfl, fun q hq => (List.mem_append.mp hq).elim (hp q) fun z => ?_, by rw [List.length_append, hpl]; rfl, kset_same, B8.set hnb2, f8.put hn2⟩⟩
          rw [List.mem_singleton.mp z]
          exact ⟨by dsimp only; omega, by dsimp only; omega⟩
      · rintro j e acc κ6 L he hL ⟨ts, rfl, ht, htl, e6, B6, f6⟩
        rw [List.getElem?_map, Option.map_eq_some_iff] at he
        obtain ⟨p, hp, rfl⟩ := he
        have hps := hq p (List.mem_of_getElem? hp)
        have hjl := (List.getElem?_eq_some_iff.mp hp).1
        refine ⟨trivial, ?_⟩
        unfold prD
        rw [bi_inr rfl]
        simp only [dwipe, List.set_cons_zero, List.set_cons_succ]
        (repeat walk_at "st")
        refine take_spec B6 (by omega) (by decide) (by decide) fun t4 κ8 t40 t41 B8 f8 => ?_
        have e8 := f8 _ _ hnb1 e6
        (repeat walk_at "st")
        refine ⟨e8, by rw [List.length_map]; unfold sizeLine; omega, hL _ _ ⟨ts ++ [(p, 1 + t4)], by rw [List.map_append]; rfl, fun q hq => (List.mem_append.mp hq).elim (ht q) fun z => ?_, by rw [List.length_append, htl]; rfl, kset_same, B8.set hnb1, (f6.trans f8).put hn1⟩⟩
        rw [List.mem_singleton.mp z]
        exact ⟨hps, by dsimp only; omega⟩
    · rintro j e acc κ4 L he hL ⟨qs, rfl, hq, hl, hl1, e4, B4, f4⟩
      change (enumD 0 (W16.map prD))[j]? = some e at he
      rw [enumD_get, List.getElem?_map, Option.map_map, Option.map_eq_some_iff] at he
      obtain ⟨p, hp, rfl⟩ := he
      have hj : j < 16 := (List.getElem?_eq_some_iff.mp hp).1
      have hps := W16_sm p (List.mem_of_getElem? hp)
      refine ⟨trivial, ?_⟩
      show ∃ δ1, bindT (.inr [5, 7]) (.node .tup [.int ((0 + j : Nat) : Int), prD p]) _ _ = some δ1 ∧ _
      rw [Nat.zero_add]
      rw [bi_inr rfl]
      simp only [dwipe, List.set_cons_zero, List.set_cons_succ]
      have yes : ∀ κ' , κ' n = some (.live .lst (qs.map prD)) → By b (m + 3 + j + 1) κ' → Fr b κ3 κ' → L (qs.map prD ++ [prD p]) (kset κ' n (.live .lst (qs.map prD ++ [prD p]))) := fun κ' e' B' f' => by
        refine hL _ _ ⟨qs ++ [p], by rw [List.map_append]; rfl, fun q h => (List.mem_append.mp h).elim (hq q) fun z => by rw [List.mem_singleton.mp z]; exact hps, by rw [List.length_append]; exact Nat.succ_le_succ hl, fun _ => by rw [List.length_append]; exact Nat.le_add_left _ _, kset_same, ?_, f'.put hn⟩
        exact B'.set hnb
      have len : (qs.map prD).length < sizeLine := by rw [List.length_map]; unfold sizeLine; omega
      (repeat walk_at "st")
      refine i_d (fun h1 => ?_) fun h1 => ?_
      · (repeat walk_at "st")
        exact ⟨e4, len, yes κ4 e4 (B4.mono (by omega)) f4⟩
      · (repeat walk_at "st")
        refine take_spec B4 (by omega) (by decide) (by decide) fun t4 κ5 _ _ B5 f5 => ?_
        have e5 := f5 _ _ hnb e4
        (repeat walk_at "st")
        refine i_d (fun h2 => ?_) fun h2 => ?_
        · (repeat walk_at "st")
          exact ⟨e5, len, yes κ5 e5 (B5.mono (by omega)) (f4.trans f5)⟩
        · (repeat walk_at "st")
          refine hL _ _ ⟨qs, rfl, hq, by omega, fun _ => ?_, e5, B5.mono (by omega), f4.trans f5⟩
          by_cases hj0 : j = 0
          · subst hj0
            exact absurd (by decide) h1
          · exact hl1 (by omega)
  · (repeat walk_at "st")
    refine take_spec B3 (by omega) (by decide) (by decide) fun t4 κ4 t40 t41 B4 f4 => ?_
    have f04 := f03.trans f4
    clear f4 f03 B3
    (repeat walk_at "st")
    refine dl_ix (fun i δ κ' => ∃ (d : D) (ps : List Pt) (a1 a5 a6 : Option D), δ = [some (.cell b), a1, some (.node .tup [.int (t1 * 3), .int (t2 * 3)]), none, some d, a5, a6, none, none, none, none] ∧ ((i = 0 ∧ d = .node .lst (ps.map prD)) ∨ ∃ n, d = .cell n ∧ κ n = none ∧ n ≠ b ∧ κ' n = some (.live .lst (ps.map prD))) ∧ ps.length = 2 + 2 * i ∧ (∀ p ∈ ps, Sx p) ∧ By b (m + 4 + i) κ' ∧ Fr b κ κ') ?_ ?_
      ⟨_, [(t1 * 3, t2 * 3), (t1 * 3 + 8, t2 * 3)], _, _, _, rfl, .inl ⟨rfl, rfl⟩, rfl, fun p hp => ?_, B4.mono (by omega), f04⟩
    · rintro δ κ5 ⟨d, ps, a1, a5, a6, rfl, hc, hl, hp, B5, f5⟩
      rw [rangeD_len] at hc hl B5
      refine ⟨trivial, ?_⟩
      rcases hc with ⟨z, _⟩ | ⟨n, rfl, hn, hnb, en⟩
      · omega
      (repeat walk_at "st")
      exact h n κ5 ps hn hnb en (by omega) hp (B5.mono (by omega)) f5
    · rintro i e δ κ5 L he hL ⟨d, ps, a1, a5, a6, rfl, hc, hl, hp, B5, f5⟩
      obtain ⟨hi, rfl⟩ := rangeD_get he
      have hi4 : i < 4 := by omega
      refine ⟨trivial, ?_⟩
      (repeat walk_at "st")
      refine take_spec B5 (by omega) (by omega) (by omega) fun t5 κ6 t50 t51 B6 f6 => ?_
      have w6 : WL κ6 d (ps.map prD) := by
        rcases hc with ⟨_, rfl⟩ | ⟨n, rfl, hn, hnb, en⟩
        · exact .lst
        · exact .cell (f6 _ _ hnb en)
      have f7 := f5.trans f6
      (repeat walk_at "st")
      refine ad_wl w6 .lst (by rw [List.length_map]; unfold sizeLine; simp; omega) ?_
      refine e_nwt fun n hn => ?_
      have hnb := B6.ne hn
      have hn0 : κ n = none := by
        cases e : κ n with
        | none => rfl
        | some c => rw [f7 _ _ hnb e] at hn; cases hn
      (repeat walk_at "st")
      refine hL _ _ ⟨_, ps ++ [(t1 * 3 + 8 - 2 * (i : Int), t2 * 3 + (1 + t5)), (t1 * 3 + 6 - 2 * (i : Int), t2 * 3 + (1 + t5))], _, _, _, rfl, .inr ⟨n, rfl, hn0, hnb, ?_⟩, by rw [List.length_append, hl]; show _ + 2 = _; omega, fun q hq => (List.mem_append.mp hq).elim (hp q) fun z => ?_, (B6.set hnb).mono (by omega), f7.put hn0⟩
      · rw [kset_same, List.map_append]
        simp only [Int.zero_add]
        rfl
      · simp only [List.mem_cons, List.not_mem_nil, or_false] at z
        rcases z with rfl | rfl
        · exact ⟨by dsimp only; omega, by dsimp only; omega⟩
        · exact ⟨by dsimp only; omega, by dsimp only; omega⟩
    · simp only [List.mem_cons, List.not_mem_nil, or_false] at hp
      rcases hp with rfl | rfl
      · exact ⟨by dsimp only; omega, by dsimp only; omega⟩
      · exact ⟨by dsimp only; omega, by dsimp only; omega⟩
end



theorem ixN_lt {n : Nat} {j : Int} (h0 : -(n : Int) ≤ j) (h1 : j < n) : ∃ m, L2.ixN n j = some m ∧ m < n := by
  unfold L2.ixN
  by_cases h : 0 ≤ j
  · rw [if_pos h, if_pos h1]
    exact ⟨_, rfl, by omega⟩
  · rw [if_neg h, if_pos h0]
    exact ⟨_, rfl, by omega⟩
section
variable {κ : Kap} {X : Str → List D → Kap → Prop} {Q : DQ}
theorem set_cell {n : Nat} {i : Int} {p : Pt} {ps : List Pt} {P : Kap → Prop} (e : κ n = some (.live .lst (ps.map prD))) (h0 : -(ps.length : Int) ≤ i) (h1 : i < ps.length) (h : ∀ qs : List Pt, qs.length = ps.length → (∀ q ∈ qs, q ∈ ps ∨ q = p) → P (kset κ n (.live .lst (qs.map prD)))) : fSet (.cell n) (.int i) (prD p) κ P := by
  rw [se_cell e, List.length_map]
  obtain ⟨m, hm, hl⟩ := ixN_lt h0 h1
  refine ⟨m, hm, ?_⟩
  have : (ps.map prD).set m (prD p) = (ps.set m p).map prD := by rw [List.map_set]
  rw [this]
  exact h _ (List.length_set ..) fun q hq => (List.mem_or_eq_of_mem_set hq)
theorem comb_q {b m : Nat} (hB : By b m κ) (hm : m + 60 ≤ 2 ^ 20) (h : ∀ (n : Nat) (κ' : Kap) (ps : List Pt), κ n = none → n ≠ b → κ' n = some (.live .lst (ps.map prD)) → ps.length = 100 → (∀ p ∈ ps, Sx p) → By b (m + 60) κ' → Fr b κ κ' → Q (.cell n) κ') : sp__law_comb [.cell b] κ X Q := by
  (unfold sp__law_comb; refine s_sp rfl ?_; simp only [startD, List.map_cons, List.map_nil, List.length_cons, List.length_nil, Nat.zero_add, Nat.reduceAdd, Nat.reduceSub, List.replicate, List.cons_append, List.nil_append]; unfold b__law_comb)
  (repeat walk_at "st")
  refine dl_ix (fun i δ κ' => ∃ (d : D) (ps : List Pt) (a2 a3 : Option D), δ = [some (.cell b), some d, a2, a3] ∧ ((i = 0 ∧ d = .node .lst (ps.map prD)) ∨ ∃ n, d = .cell n ∧ κ n = none ∧ n ≠ b ∧ κ' n = some (.live .lst (ps.map prD))) ∧ ps.length = 2 + 2 * i ∧ (∀ p ∈ ps, Sx p) ∧ By b (m + i) κ' ∧ Fr b κ κ') ?_ ?_
    ⟨_, [(0, 0), (98, 0)], _, _, rfl, .inl ⟨rfl, rfl⟩, rfl, fun p hp => ?_, hB, Fr.refl⟩
  · rintro δ κ5 ⟨d, ps, a2, a3, rfl, hc, hl, hp, B5, f5⟩
    rw [rangeD_len] at hc hl B5
    change (49 : Nat) = 0 ∧ _ ∨ _ at hc
    change ps.length = 100 at hl
    change By b (m + 49) κ5 at B5
    refine ⟨trivial, ?_⟩
    rcases hc with ⟨z, _⟩ | ⟨n, rfl, hn, hnb, en⟩
    · omega
    (repeat walk_at "st")
    refine take_spec B5 (by omega) (by decide) (by decide) fun t1 κ6 _ _ B6 f6 => ?_
    have e6 := f6 _ _ hnb en
    have f56 := f5.trans f6
    clear f5 f6 B5
    (repeat walk_at "st")
    refine i_d (fun h1 => ?_) fun h1 => ?_
    · (repeat walk_at "st")
      refine take_spec B6 (by omega) (by decide) (by decide) fun t2 κ7 t20 t21 B7 f7 => ?_
      (repeat walk_at "st")
      refine take_spec B7 (by omega) (by decide) (by decide) fun t3 κ8 t30 t31 B8 f8 => ?_
      (repeat walk_at "st")
      refine take_spec B8 (by omega) (by decide) (by decide) fun t4 κ9 t40 t41 B9 f9 => ?_
      have e9 := f9 _ _ hnb (f8 _ _ hnb (f7 _ _ hnb e6))
      have f09 := f56.trans (f7.trans (f8.trans f9))
      (repeat walk_at "st")
      refine set_cell (p := (t2, 0 - t3)) e9 (by omega) (by omega) fun qs hql hq => ?_
      (repeat walk_at "st")
      refine h n _ qs hn hnb kset_same (by omega) (fun q hq' => ?_) ((B9.set hnb).mono (by omega)) (f09.put hn)
      rcases hq q hq' with z | z
      · exact hp q z
      · rw [z]
        exact ⟨by dsimp only; omega, by dsimp only; omega⟩
    · (repeat walk_at "st")
      exact h n κ6 ps hn hnb e6 hl hp (B6.mono (by omega)) f56
  · rintro i e δ κ5 L he hL ⟨d, ps, a2, a3, rfl, hc, hl, hp, B5, f5⟩
    obtain ⟨hi, rfl⟩ := rangeD_get he
    have hi4 : i < 49 := hi
    refine ⟨trivial, ?_⟩
    (repeat walk_at "st")
    refine take_spec B5 (by omega) (by omega) (by omega) fun t5 κ6 t50 t51 B6 f6 => ?_
    have w6 : WL κ6 d (ps.map prD) := by
      rcases hc with ⟨_, rfl⟩ | ⟨n, rfl, hn, hnb, en⟩
      · exact .lst
      · exact .cell (f6 _ _ hnb en)
    have f7 := f5.trans f6
    (repeat walk_at "st")
    refine ad_wl w6 .lst (by rw [List.length_map]; unfold sizeLine; simp; omega) ?_
    refine e_nwt fun n hn => ?_
    have hnb := B6.ne hn
    have hn0 : κ n = none := by
      cases e : κ n with
      | none => rfl
      | some c => rw [f7 _ _ hnb e] at hn; cases hn
    (repeat walk_at "st")
    refine hL _ _ ⟨_, ps ++ [(98 - 2 * (i : Int), 1 + t5), (96 - 2 * (i : Int), 1 + t5)], _, _, rfl, .inr ⟨n, rfl, hn0, hnb, ?_⟩, by rw [List.length_append, hl]; show _ + 2 = _; omega, fun q hq => (List.mem_append.mp hq).elim (hp q) fun z => ?_, (B6.set hnb).mono (by omega), f7.put hn0⟩
    · rw [kset_same, List.map_append]
      simp only [Int.zero_add]
      rfl
    · simp only [List.mem_cons, List.not_mem_nil, or_false] at z
      rcases z with rfl | rfl
      · exact ⟨by dsimp only; omega, by dsimp only; omega⟩
      · exact ⟨by dsimp only; omega, by dsimp only; omega⟩
  · simp only [List.mem_cons, List.not_mem_nil, or_false] at hp
    rcases hp with rfl | rfl
    · exact ⟨by decide, by decide⟩
    · exact ⟨by decide, by decide⟩
end



theorem Fa.fr' {b : Nat} {κ κ' : Kap} (f : Fa κ κ') : Fr b κ κ' := fun n c _ e => f n c e
theorem By.fa' {b m : Nat} {κ κ' : Kap} (h : By b m κ) (f : Fa κ κ') : By b m κ' := let ⟨x, y, u, z, h1, h2⟩ := h; ⟨x, y, u, z, f _ _ h1, h2⟩
theorem s_thr {s : DS} {δ : DEnv} {κ : Kap} {X : DX} {n : DEnv → Kap → Prop} {rt : DQ} {bk ct : DEnv → Kap → Prop} (R : DEnv → Kap → Prop) (h1 : ∀ n' : DEnv → Kap → Prop, (∀ δ κ, R δ κ → n' δ κ) → s δ κ X ⟨n', rt, bk, ct⟩) (h2 : ∀ δ κ, R δ κ → n δ κ) : s δ κ X ⟨n, rt, bk, ct⟩ := h1 n h2
def Sw (p : Pt) : Prop := p.1.natAbs < 2 ^ 13 ∧ p.2.natAbs < 2 ^ 13
theorem Sx.w {p : Pt} (h : Sx p) : Sw p := ⟨Nat.lt_trans h.1 (by decide), Nat.lt_trans h.2 (by decide)⟩
section
variable {κ : Kap} {X : Str → List D → Kap → Prop} {Q : DQ}
theorem ix_any {d : D} {ps : List Pt} {i : Int} (w : WL κ d (ps.map prD)) (h0 : -(ps.length : Int) ≤ i) (h1 : i < ps.length) (h : ∀ p ∈ ps, Q (prD p) κ) : fIx d (.int i) κ Q := by
  have key : ∃ p ∈ ps, L2.atI (ps.map prD) i = some (prD p) := by
    obtain ⟨m, hm, hl⟩ := ixN_lt h0 h1
    refine ⟨ps[m], List.getElem_mem hl, ?_⟩
    unfold L2.atI
    rw [List.length_map, hm]
    show (ps.map prD)[m]? = _
    rw [List.getElem?_map, List.getElem?_eq_getElem hl]
    rfl
  obtain ⟨p, hp, e⟩ := key
  cases w with
  | lst => exact ⟨_, e, h p hp⟩
  | cell en =>
    rw [ix_cell en]
    exact ⟨_, e, h p hp⟩
theorem len_wl {d : D} {ps : List Pt} (w : WL κ d (ps.map prD)) (h : Q (.int (ps.length : Nat)) κ) : fLen [d] κ Q := by
  refine f_lnW w.wk ?_
  rw [List.length_map]
  exact h
theorem cut_hi {xs : List D} {k : Nat} (h : k ≤ xs.length) : cutD xs none (some (k : Int)) = xs.take k := by
  unfold cutD
  rw [HT.sIx_nat, HT.sIx_none, Nat.min_eq_left h]
  rfl
def rwI (r : List Pt) : D := .node .lst (r.map prD)
theorem scene_q {b m : Nat} (hB : By b m κ) (hm : m + 500 ≤ 2 ^ 20) (h : ∀ (n : Nat) (κ' : Kap) (rows : List (List Pt)), κ n = none → n ≠ b → κ' n = some (.live .lst (rows.map rwI)) → (1 ≤ rows.length ∧ rows.length ≤ 4) → (∀ r ∈ rows, (1 ≤ r.length ∧ r.length ≤ 100) ∧ ∀ p ∈ r, Sw p) → By b (m + 500) κ' → Fr b κ κ' → Q (.cell n) κ') : sp__law_scene [.cell b] κ X Q := by
  (unfold sp__law_scene; refine s_sp rfl ?_; simp only [startD, List.map_cons, List.map_nil, List.length_cons, List.length_nil, Nat.zero_add, Nat.reduceAdd, Nat.reduceSub, List.replicate, List.cons_append, List.nil_append]; unfold b__law_scene)
  (repeat walk_at "st")
  refine e_nwt fun n1 hn1 => ?_
  have hnb1 := hB.ne hn1
  have B1 := hB.set (c := .live .lst []) hnb1
  have f1 : Fr b κ (kset κ n1 (.live .lst [])) := Fr.set hn1
  have e1 : (kset κ n1 (.live .lst [])) n1 = some (.live .lst []) := kset_same
  generalize kset κ n1 (.live .lst []) = κ1 at B1 f1 e1
  clear hB
  (repeat walk_at "st")
  refine take_spec B1 (by omega) (by decide) (by decide) fun t1 κ2 t10 t11 B2 f2 => ?_
  (repeat walk_at "st")
  refine take_spec B2 (by omega) (by decide) (by decide) fun t2 κ3 t20 t21 B3 f3 => ?_
  have e3 := f3 _ _ hnb1 (f2 _ _ hnb1 e1)
  have f03 := f1.trans (f2.trans f3)
  clear f1 f2 f3 B1 B2 e1
  refine ix_mem t20 t21 fun d1 hd1 => ?_
  have ew : ∃ w : Int, d1 = .int w ∧ 1 ≤ w ∧ w ≤ 4 := by
    simp only [List.mem_cons, List.not_mem_nil, or_false] at hd1
    rcases hd1 with rfl | rfl | rfl
    · exact ⟨_, rfl, by omega, by omega⟩
    · exact ⟨_, rfl, by omega, by omega⟩
    · exact ⟨_, rfl, by omega, by omega⟩
  obtain ⟨w, rfl, w1, w4⟩ := ew
  (repeat walk_at "st")
  refine dl_ix (fun i δ κ' => ∃ (rows : List (List Pt)) (a2 a3 a4 a5 a6 a7 a8 a9 a10 : Option D), δ = [some (.cell b), some (.cell n1), a2, a3, a4, a5, a6, a7, a8, a9, a10] ∧ κ' n1 = some (.live .lst (rows.map rwI)) ∧ rows.length = i ∧ (∀ r ∈ rows, (1 ≤ r.length ∧ r.length ≤ 100) ∧ ∀ p ∈ r, Sw p) ∧ By b (m + 2 + 100 * i) κ' ∧ Fr b κ κ') ?_ ?_
    ⟨[], _, _, _, _, _, _, _, _, _, rfl, e3, rfl, fun r hr => absurd hr List.not_mem_nil, B3.mono (by omega), f03⟩
  · rintro δ κ4 ⟨rows, a2, a3, a4, a5, a6, a7, a8, a9, a10, rfl, e4, hl, hr, B4, f4⟩
    rw [rangeD_len] at hl B4
    refine ⟨trivial, ?_⟩
    (repeat walk_at "st")
    exact h n1 κ4 rows hn1 hnb1 e4 (by omega) hr (B4.mono (by omega)) f4
  · rintro i e δ κ4 L he hL ⟨rows, a2, a3, a4, a5, a6, a7, a8, a9, a10, rfl, e4, hl, hr, B4, f4⟩
    obtain ⟨hi, rfl⟩ := rangeD_get he
    have hi4 : i < 4 := by omega
    refine ⟨trivial, ?_⟩
    (repeat walk_at "st")
    refine round_q B4 (by omega) fun n2 κ5 ps hn2 hnb2 e5 hpl hps B5 f5 => ?_
    have h12 : n1 ≠ n2 := kne e4 hn2
    have e45 := f5 _ _ hnb1 e4
    have f45 := f4.trans f5
    have hn20 : κ n2 = none := by
      cases e : κ n2 with
      | none => rfl
      | some c => rw [f4 _ _ hnb2 e] at hn2; cases hn2
    clear f4 f5 B4 e4
    refine g_n3 ?_
    refine s_seq (s_thr (fun δ κ' => ∃ (n : Nat) (ps : List Pt) (a10 : Option D), δ = [some (.cell b), some (.cell n1), some (.int (0 + (i : Nat))), some (.cell n), a4, a5, a6, a7, a8, a9, a10] ∧ κ n = none ∧ n ≠ n1 ∧ n ≠ b ∧ κ' n = some (.live .lst (ps.map prD)) ∧ (1 ≤ ps.length ∧ ps.length ≤ 16) ∧ (∀ p ∈ ps, Sx p) ∧ κ' n1 = some (.live .lst (rows.map rwI)) ∧ By b (m + 2 + 100 * i + 80) κ' ∧ Fr b κ κ') ?_ ?_)
    · intro n' hn'
      (repeat walk_at "st")
      refine take_spec B5 (by omega) (by decide) (by decide) fun t3 κ6 _ _ B6 f6 => ?_
      (repeat walk_at "st")
      refine i_d (fun h1 => ?_) fun h1 => ?_
      · (repeat walk_at "st")
        refine take_spec B6 (by omega) (by decide) (by decide) fun t4 κ7 t40 t41 B7 f7 => ?_
        have e7 := f7 _ _ hnb1 (f6 _ _ hnb1 e45)
        have f47 := f45.trans (f6.trans f7)
        clear B5 B6 f6 f7 f45 e45 e5
        (repeat walk_at "st")
        intro n3 hn3
        have hnb3 := B7.ne hn3
        have h13 : n1 ≠ n3 := kne e7 hn3
        have hn30 : κ n3 = none := by
          cases e : κ n3 with
          | none => rfl
          | some c => rw [f47 _ _ hnb3 e] at hn3; cases hn3
        refine lcLoop_ix (fun j acc κ' => ∃ qs : List Pt, acc = qs.map prD ∧ (∀ q ∈ qs, Sx q) ∧ qs.length = j ∧ κ' n3 = some (.live .lst acc) ∧ κ' n1 = some (.live .lst (rows.map rwI)) ∧ By b (m + 2 + 100 * i + 62 + 2 * j) κ' ∧ Fr b κ κ') ?_ ?_ ⟨[], rfl, fun q hq => absurd hq List.not_mem_nil, rfl, kset_same, by rw [kset_ne h13]; exact e7, (B7.set hnb3).mono (by omega), f47.put hn30⟩
        · rintro acc κ8 ⟨qs, rfl, hq, hql, e8, e81, B8, f8⟩
          rw [rangeD_len] at hql B8
          refine ⟨trivial, e8, ?_⟩
          (repeat walk_at "st")
          exact hn' _ _ ⟨n3, qs, _, rfl, hn30, Ne.symm h13, hnb3, e8, by omega, hq, e81, B8.mono (by omega), f8⟩
        · rintro j e acc κ8 L2 he hL2 ⟨qs, rfl, hq, hql, e8, e81, B8, f8⟩
          obtain ⟨hj, rfl⟩ := rangeD_get he
          have hj8 : j < 8 := by omega
          refine ⟨trivial, ?_⟩
          rw [bi_inl]
          simp only [dwipe, List.set_cons_zero, List.set_cons_succ]
          (repeat walk_at "st")
          refine take_spec B8 (by omega) (by decide) (by decide) fun x κ9 x0 x1 B9 f9 => ?_
          (repeat walk_at "st")
          refine take_spec B9 (by omega) (by decide) (by decide) fun y κ10 y0 y1 B10 f10 => ?_
          have e10 := f10 _ _ hnb3 (f9 _ _ hnb3 e8)
          have e101 := f10 _ _ hnb1 (f9 _ _ hnb1 e81)
          (repeat walk_at "st")
          refine ⟨e10, by rw [List.length_map]; unfold sizeLine; omega, hL2 _ _ ⟨qs ++ [(x, y)], by rw [List.map_append]; rfl, fun q h => (List.mem_append.mp h).elim (hq q) fun z => by rw [List.mem_singleton.mp z]; exact ⟨by dsimp only; omega, by dsimp only; omega⟩, by rw [List.length_append, hql]; rfl, kset_same, by rw [kset_ne h13]; exact e101, (B10.set hnb3).mono (by omega), (f8.trans (f9.trans f10)).put hn30⟩⟩
      · (repeat walk_at "st")
        exact hn' _ _ ⟨n2, ps, _, rfl, hn20, Ne.symm h12, hnb2, f6 _ _ hnb2 e5, hpl, hps, f6 _ _ hnb1 e45, B6.mono (by omega), f45.trans f6⟩
    · rintro δ κ6 ⟨n, ps, a10, rfl, hn0, hnn, hnb, en, hpl, hps, e6, B6, f6⟩
      clear e5 B5 f45 e45 hn20 h12 hnb2 hn2
      (repeat walk_at "st")
      refine take_spec B6 (by omega) (by decide) (by decide) fun way κ7 w0 w9 B7 f7 => ?_
      (repeat walk_at "st")
      have en7 := f7 _ _ hnb en
      refine len_wl (.cell en7) ?_
      (repeat walk_at "st")
      refine take_spec (w := (ps.length : Nat)) B7 (by omega) (by omega) (by omega) fun at' κ8 q0 q1 B8 f8 => ?_
      have en8 := f8 _ _ hnb en7
      have e8 := f8 _ _ hnb1 (f7 _ _ hnb1 e6)
      have f08 := f6.trans (f7.trans f8)
      clear f6 f7 f8 B6 B7 en en7 e6
      (repeat walk_at "st")
      refine ix_any (.cell en8) (by omega) (by omega) fun p hp => ?_
      unfold prD
      (repeat walk_at "st")
      refine len_wl (.cell en8) ?_
      have hm1 := fm_bd (at' + 1) (ps.length : Nat) (by omega)
      refine f_mod (by omega) ?_
      refine ix_any (.cell en8) (by omega) (by omega) fun p2 hp2 => ?_
      have sp := hps p hp
      have sp2 := hps p2 hp2
      refine g_n8 ?_
      refine s_seq (s_thr (fun δ κ' => ∃ (d : D) (qs : List Pt) (a9 : Option D), δ = [some (.cell b), some (.cell n1), some (.int (0 + (i : Nat))), some d, some (.int way), some (.int at'), some (.int p.1), some (.int p.2), some (prD p2), a9, a10] ∧ κ' = κ8 ∧ WL κ8 d (qs.map prD) ∧ (3 ≤ way → d = .cell n ∧ qs = ps) ∧ (1 ≤ qs.length ∧ qs.length ≤ 17) ∧ (∀ q ∈ qs, q.1.natAbs < 2 ^ 12 ∧ q.2.natAbs < 2 ^ 12)) ?_ ?_)
      · intro n' hn'
        have sx12 : ∀ q ∈ ps, q.1.natAbs < 2 ^ 12 ∧ q.2.natAbs < 2 ^ 12 := fun q hq => ⟨Nat.lt_trans (hps q hq).1 (by decide), Nat.lt_trans (hps q hq).2 (by decide)⟩
        (repeat walk_at "st")
        refine i_d (fun h1 => ?_) fun h1 => ?_
        · obtain ⟨sp1, sp1'⟩ := sp
          obtain ⟨sp3, sp3'⟩ := sp2
          unfold prD
          (repeat walk_at "st")
          refine len_wl (.cell en8) ?_
          have hm2 := fm_bd (at' - 2) (ps.length : Nat) (by omega)
          refine f_mod (by omega) ?_
          refine ix_any (.cell en8) (by omega) (by omega) fun p3 hp3 => ?_
          have sp5 := sx12 p3 hp3
          (repeat walk_at "st")
          refine ix_mem w0 h1 fun d1 hd1 => ?_
          have er : ∃ r : Pt, d1 = prD r ∧ r.1.natAbs < 2 ^ 12 ∧ r.2.natAbs < 2 ^ 12 := by
            simp only [List.mem_cons, List.not_mem_nil, or_false] at hd1
            rcases hd1 with rfl | rfl | rfl
            · exact ⟨p, rfl, by omega⟩
            · exact ⟨(2 * p.1 - p2.1, 2 * p.2 - p2.2), rfl, by dsimp only; omega⟩
            · exact ⟨p3, rfl, sp5⟩
          obtain ⟨r, rfl, hr1⟩ := er
          obtain ⟨a, rfl⟩ := Int.eq_ofNat_of_zero_le q0
          (repeat walk_at "st")
          refine sl_C en8 ?_
          rw [show ((a : Int) + 1) = ((a + 1 : Nat) : Int) from rfl, cut_hi (by rw [List.length_map]; omega)]
          unfold fNew
          dsimp only
          (repeat walk_at "st")
          have hal : a < ps.length := by omega
          refine ad_wl .lst .lst (by rw [List.length_take, List.length_map]; unfold sizeLine; simp; omega) ?_
          unfold fNew
          dsimp only
          (repeat walk_at "st")
          refine sl_C en8 ?_
          rw [show ((a : Int) + 1) = ((a + 1 : Nat) : Int) from rfl, cut_lo (by rw [List.length_map]; omega)]
          unfold fNew
          dsimp only
          refine ad_wl .lst .lst (by rw [List.length_append, List.length_take, List.length_drop, List.length_map]; unfold sizeLine; simp; omega) ?_
          unfold fNew
          dsimp only
          refine g_n3 ?_
          have em : (ps.map prD).take (a + 1) ++ [prD r] ++ (ps.map prD).drop (a + 1) = (ps.take (a + 1) ++ [r] ++ ps.drop (a + 1)).map prD := by
            rw [List.map_append, List.map_append, List.map_take, List.map_drop]
            rfl
          rw [em]
          refine hn' _ _ ⟨_, ps.take (a + 1) ++ [r] ++ ps.drop (a + 1), _, rfl, rfl, .lst, fun z => absurd z (by omega), ?_, fun q hq => ?_⟩
          · rw [List.length_append, List.length_append, List.length_take, List.length_drop, Nat.min_eq_left (by omega)]
            show 1 ≤ a + 1 + 1 + (ps.length - (a + 1)) ∧ a + 1 + 1 + (ps.length - (a + 1)) ≤ 17
            omega
          · rcases List.mem_append.mp hq with z | z
            · rcases List.mem_append.mp z with z | z
              · exact sx12 q (List.mem_of_mem_take z)
              · rw [List.mem_singleton.mp z]
                exact hr1
            · exact sx12 q (List.mem_of_mem_drop z)
        · (repeat walk_at "st")
          exact hn' _ _ ⟨.cell n, ps, _, rfl, rfl, .cell en8, fun _ => ⟨rfl, rfl⟩, by omega, sx12⟩
      · rintro δ κ9 ⟨d, qs, b9, rfl, rfl, wq, hway, hql, hq⟩
        refine s_seq (s_thr (fun δ κ' => ∃ (d : D) (qs : List Pt), δ = [some (.cell b), some (.cell n1), some (.int (0 + (i : Nat))), some d, some (.int way), some (.int at'), some (.int p.1), some (.int p.2), some (prD p2), b9, a10] ∧ WL κ' d (qs.map prD) ∧ (1 ≤ qs.length ∧ qs.length ≤ 17) ∧ (∀ q ∈ qs, q.1.natAbs < 2 ^ 12 ∧ q.2.natAbs < 2 ^ 12) ∧ κ' n1 = some (.live .lst (rows.map rwI)) ∧ By b (m + 2 + 100 * i + 82) κ' ∧ Fr b κ κ') ?_ ?_)
        · intro n' hn'
          (repeat walk_at "st")
          refine i_d (fun h1 => ?_) fun h1 => ?_
          · obtain ⟨rfl, rfl⟩ := hway (by omega)
            (repeat walk_at "st")
            refine ix_any (.cell en8) (by omega) (by omega) fun p4 hp4 => ?_
            (repeat walk_at "st")
            refine ix_any (.cell en8) (by omega) (by omega) fun p5 hp5 => ?_
            (repeat walk_at "st")
            refine set_cell (p := p4) en8 (by omega) (by omega) fun q1s hq1l hq1 => ?_
            (repeat walk_at "st")
            refine set_cell (p := p5) (kset_same (κ := κ9) (n := n) (c := .live .lst (q1s.map prD))) (by omega) (by omega) fun q2s hq2l hq2 => ?_
            (repeat walk_at "st")
            have hnn1 : n1 ≠ n := Ne.symm hnn
            refine hn' _ _ ⟨.cell n, q2s, rfl, .cell kset_same, by omega, fun q hqm => ?_, by rw [kset_ne hnn1, kset_ne hnn1]; exact e8, (B8.set hnb).set hnb, (f08.put hn0).put hn0⟩
            rcases hq2 q hqm with z | z
            · rcases hq1 q z with y | y
              · exact hq q y
              · rw [y]
                exact hq _ hp4
            · rw [z]
              exact hq _ hp5
          · (repeat walk_at "st")
            exact hn' _ _ ⟨d, qs, rfl, wq, hql, hq, e8, B8, f08⟩
        · rintro δ κ10 ⟨d, qs, rfl, wq, hql, hq, e10, B10, f10⟩
          refine s_seq (s_thr (fun δ κ' => ∃ (d : D) (qs : List Pt), δ = [some (.cell b), some (.cell n1), some (.int (0 + (i : Nat))), some d, some (.int way), some (.int at'), some (.int p.1), some (.int p.2), some (prD p2), b9, a10] ∧ κ' = κ10 ∧ WL κ10 d (qs.map prD) ∧ (1 ≤ qs.length ∧ qs.length ≤ 17) ∧ (∀ q ∈ qs, q.1.natAbs < 2 ^ 12 ∧ q.2.natAbs < 2 ^ 12)) ?_ ?_)
          · intro n' hn'
            (repeat walk_at "st")
            refine i_d (fun h1 => ?_) fun h1 => ?_
            · (repeat walk_at "st")
              refine ⟨qs.map prD, by cases wq with | lst => rfl | cell e => exact vw_cell e, ?_⟩
              unfold fNew
              dsimp only
              (repeat walk_at "st")
              refine hn' _ _ ⟨.node .lst (qs.map prD).reverse, qs.reverse, rfl, rfl, by rw [List.map_reverse]; exact .lst, by rw [List.length_reverse]; exact hql, fun q hqm => hq q (List.mem_reverse.mp hqm)⟩
            · (repeat walk_at "st")
              exact hn' _ _ ⟨d, qs, rfl, rfl, wq, hql, hq⟩
          · rintro δ κ11 ⟨d, qs, rfl, rfl, wq, hql, hq⟩
            (repeat walk_at "st")
            refine isq_cell e10 ?_
            (repeat walk_at "st")
            refine q_wk wq.wk fun gd hgd => ?_
            intro n4 hn4
            have h14 : n1 ≠ n4 := kne e10 hn4
            have hnb4 := B10.ne hn4
            have hn40 : κ n4 = none := by
              cases e : κ n4 with
              | none => rfl
              | some c => rw [f10 _ _ hnb4 e] at hn4; cases hn4
            refine lcLoop_ix (fun j acc κ' => acc = (qs.take j).map (fun p => prD (2 * p.1, 2 * p.2)) ∧ κ' n4 = some (.live .lst acc) ∧ Fa κ11 κ') ?_ ?_ ⟨rfl, kset_same, Fa.new hn4⟩
            · rintro acc κ12 ⟨rfl, e12, f12⟩
              rw [List.length_map, List.take_length] at e12 ⊢
              refine ⟨hgd _ f12, e12, ?_⟩
              have f13 : Fa κ11 (kset κ12 n4 .dead) := f12.put hn4
              generalize kset κ12 n4 .dead = κ13 at f13
              have e13 := f13 _ _ e10
              (repeat walk_at "st")
              refine f_app e13 (by rw [List.length_map]; omega) ?_
              (repeat walk_at "st")
              refine hL _ _ ⟨rows ++ [qs.map fun p => (2 * p.1, 2 * p.2)], _, _, _, _, _, _, _, _, _, rfl, ?_, by rw [List.length_append, hl]; rfl, fun r hrm => ?_, ?_, (f10.trans (Fa.fr' f13)).put hn1⟩
              · rw [kset_same, List.map_append]
                show _ = some (Cell.live Kd.lst (rows.map rwI ++ [rwI (qs.map fun p => (2 * p.1, 2 * p.2))]))
                unfold rwI
                rw [List.map_map]
                rfl
              · rcases List.mem_append.mp hrm with z | z
                · exact hr r z
                · rw [List.mem_singleton.mp z, List.length_map]
                  refine ⟨by omega, fun p' hp' => ?_⟩
                  obtain ⟨q, hq', rfl⟩ := List.mem_map.mp hp'
                  have := hq q hq'
                  exact ⟨by dsimp only; omega, by dsimp only; omega⟩
              · exact ((By.fa' B10 f13).set hnb1).mono (by omega)
            · rintro j e acc κ12 L2 he hL2 ⟨rfl, e12, f12⟩
              rw [List.getElem?_map, Option.map_eq_some_iff] at he
              obtain ⟨q, hq', rfl⟩ := he
              have hqs := hq q (List.mem_of_getElem? hq')
              refine ⟨hgd _ f12, ?_⟩
              unfold prD
              rw [bi_inr rfl]
              simp only [dwipe, List.set_cons_zero, List.set_cons_succ]
              (repeat walk_at "st")
              refine ⟨e12, by rw [List.length_map, List.length_take]; unfold sizeLine; omega, hL2 _ _ ⟨?_, kset_same, f12.put hn4⟩⟩
              rw [List.take_succ, hq', List.map_append]
              rfl
end



def Sm (p : Pt) : Prop := p.1.natAbs < 2 ^ 128 ∧ p.2.natAbs < 2 ^ 128
def rwD (b : Int) (ps : List Pt) : D := .node .lst ((ps.map (tq b)).map fun p => plD p.1 p.2)
def rwT (b : Int) (ps : List Pt) : D := .node .tup ((ps.map (tq b)).map fun p => plD p.1 p.2)
theorem rows_w {κ : Kap} {d : D} {b : Int} {pss : List (List Pt)} {f : List Pt → D} (w : Wk κ d (pss.map f)) (hf : ∀ ps, Row κ (f ps) (ps.map (tq b))) : Rows κ d (pss.map fun ps => ps.map (tq b)) := ⟨_, w, by rw [List.length_map, List.length_map], fun i r e => by
  rw [List.getElem?_map, Option.map_eq_some_iff] at e
  obtain ⟨ps, hps, rfl⟩ := e
  exact ⟨f ps, by rw [List.getElem?_map, hps]; rfl, hf ps⟩⟩
theorem lnum_i {κ : Kap} {X : Str → List D → Kap → Prop} {Q : DQ} {u l : Int} (hl : 0 < l) (hb : l.natAbs < 2 ^ 8000) (h : Q (nq (Rat.divInt u l)) κ) : sp__law_number [.int u, .int l] κ X Q := by
  have hl0 : l ≠ 0 := by omega
  have hg := Int.gcd_pos_of_ne_zero_right u hl0
  have hgl := Int.gcd_le_natAbs_right u hl0
  have hf := rtd_mul u l
  have hr : rtn u l = u.fdiv (Int.gcd u l : Int) ∧ rtd u l = l.fdiv (Int.gcd u l : Int) := by
    unfold rtn rtd cpt
    rw [if_neg (by omega)]
    exact ⟨rfl, rfl⟩
  have hcp : cpt u l = (Int.gcd u l : Int) := by unfold cpt; rw [if_neg (by omega)]
  rw [← nb_rt hl0] at h
  unfold nb at h
  rw [hr.1, hr.2] at h
  rw [hr.2, hcp] at hf
  (unfold sp__law_number; refine s_sp rfl ?_; simp only [startD, List.map_cons, List.map_nil, List.length_cons, List.length_nil, Nat.zero_add, Nat.reduceAdd, Nat.reduceSub, List.replicate, List.cons_append, List.nil_append]; unfold b__law_number)
  (repeat walk_at "st")
  refine s_while (fun m δ κ' => κ' = κ ∧ ∃ x y : Nat, δ = [some (.int u), some (.int l), some (.int x), some (.int y)] ∧ Nat.gcd x y = Int.gcd u l ∧ y = m) ⟨_, rfl, u.natAbs, l.natAbs, by rw [abs_nat, Int.natAbs_of_nonneg (by omega : 0 ≤ l)]; rfl, rfl, rfl⟩ ?_
  rintro m δ κ' L hL ⟨rfl, x, y, rfl, hgg, rfl⟩
  (repeat walk_at "st")
  refine i_d (fun h0 => ?_) fun h0 => ?_
  · (repeat walk_at "st")
    have hy : y ≠ 0 := by omega
    refine hL (x % y) _ _ (Nat.mod_lt _ (by omega)) ⟨rfl, y, x % y, ?_, by rw [gcd_step hy]; exact hgg, rfl⟩
    rw [← Int.ofNat_fmod]
    rfl
  · have hy : y = 0 := by omega
    subst hy
    rw [Nat.gcd_zero_right] at hgg
    subst hgg
    have hd : ∀ i, CDivD i (Int.gcd u l : Int) := fun i => cdiv_of 8000 (by omega) (by omega) (by decide)
    have hiff : l = (Int.gcd u l : Int) ↔ l.fdiv (Int.gcd u l : Int) = 1 := by
      generalize l.fdiv (Int.gcd u l : Int) = z at hf ⊢
      constructor
      · intro e
        have : z * (Int.gcd u l : Int) = 1 * (Int.gcd u l : Int) := by rw [hf, Int.one_mul]; exact e
        exact Int.eq_of_mul_eq_mul_right (by omega) this
      · intro e
        rw [e, Int.one_mul] at hf
        exact hf.symm
    (repeat walk_at "st")
    refine i_d (fun h1 => ?_) fun h1 => ?_
    · rw [if_pos (hiff.mp h1)] at h
      (repeat walk_at "st")
      refine f_div (hd _) ?_
      exact h
    · rw [if_neg (fun z => h1 (hiff.mpr z))] at h
      (repeat walk_at "st")
      refine f_div (hd _) ?_
      (repeat walk_at "st")
      refine f_div (hd _) ?_
      (repeat walk_at "st")
      exact h
section
variable {κ : Kap} {X : Str → List D → Kap → Prop} {Q : DQ}
theorem told_q {b : Int} {d : D} {ps : List Pt} (w : Wk κ d (ps.map prD)) (hb0 : 0 < b) (hb : b ≤ 64) (hl : ps.length ≤ 100) (h : ∀ κ', Fa κ κ' → Q (rwD b ps) κ') : sp__law_told [d, .int b] κ X Q := by
  (unfold sp__law_told; refine s_sp rfl ?_; simp only [startD, List.map_cons, List.map_nil, List.length_cons, List.length_nil, Nat.zero_add, Nat.reduceAdd, Nat.reduceSub, List.replicate, List.cons_append, List.nil_append]; unfold b__law_told)
  (repeat walk_at "st")
  refine q_wk w fun gd hgd => ?_
  intro n hn
  refine lcLoop_ix (fun i acc κ' => acc = (ps.take i).map (fun p => plD (tq b p).1 (tq b p).2) ∧ κ' n = some (.live .lst acc) ∧ Fa κ κ') ?_ ?_ ⟨rfl, kset_same, Fa.new hn⟩
  · rintro acc κ' ⟨rfl, e1, f⟩
    refine ⟨hgd _ f, e1, ?_⟩
    rw [List.length_map, List.take_length]
    have := h _ (f.put (c := .dead) hn)
    unfold rwD at this
    rw [List.map_map] at this
    exact this
  · rintro i e acc κ' L he hL ⟨rfl, e1, f⟩
    rw [List.getElem?_map, Option.map_eq_some_iff] at he
    obtain ⟨p, hp, rfl⟩ := he
    refine ⟨hgd _ f, ?_⟩
    unfold prD
    rw [bi_inr rfl]
    simp only [dwipe, List.set_cons_zero, List.set_cons_succ]
    (repeat walk_at "st")
    refine lnum_i hb0 (by omega) ?_
    (repeat walk_at "st")
    refine lnum_i hb0 (by omega) ?_
    (repeat walk_at "st")
    refine ⟨e1, by rw [List.length_map, List.length_take]; unfold sizeLine; omega, hL _ _ ⟨?_, kset_same, f.put hn⟩⟩
    rw [List.take_succ, hp, List.map_append]
    rfl
end
theorem nqP_sh {k : Nat} {q : Rat} (h : Sz k q) (hk : k ≤ 1900) : Sh 3850 (nqP q) := nbP_sh (Nat.lt_of_le_of_lt (log_lt h.1) (by omega)) (Nat.lt_of_le_of_lt (log_lt h.db) (by omega))
theorem plP_sh {k : Nat} {x y : Rat} (h : Sz k x) (h' : Sz k y) (hk : k ≤ 1900) : Sh 7707 (plP x y) := Sh.tuple (n := 3850) (ps := [nqP x, nqP y]) fun p hp => by
  simp only [List.mem_cons, List.not_mem_nil, or_false] at hp
  rcases hp with rfl | rfl
  · exact nqP_sh h hk
  · exact nqP_sh h' hk
def rwP (b : Int) (ps : List Pt) : PyData := .list ((ps.map (tq b)).map fun p => plP p.1 p.2)
theorem rw_pd (b : Int) (ps : List Pt) : pdata (rwD b ps) = some (rwP b ps) := pdata_list (pdataL_map (fun p : Rat × Rat => plD_pdata p.1 p.2) _)
theorem rws_pd (b : Int) (pss : List (List Pt)) : pdata (.node .lst (pss.map (rwD b))) = some (.list (pss.map (rwP b))) := pdata_list (pdataL_map (fun p => rw_pd b p) _)
theorem tq_sz {b : Int} {p : Pt} (hb0 : 0 < b) (hb : b ≤ 64) (h : Sm p) : Sz 128 (tq b p).1 ∧ Sz 128 (tq b p).2 := ⟨Sz.divInt (by omega) h.1 (by omega), Sz.divInt (by omega) h.2 (by omega)⟩
theorem rw_sh {b : Int} {ps : List Pt} (hb0 : 0 < b) (hb : b ≤ 64) (hl : ps.length ≤ 100) (hs : ∀ p ∈ ps, Sm p) : Sh 770902 (rwP b ps) := by
  have := Sh.list (n := 7707) (ps := (ps.map (tq b)).map fun p => plP p.1 p.2) fun q hq => by
    rw [List.map_map] at hq
    obtain ⟨p, hp, rfl⟩ := List.mem_map.mp hq
    have := tq_sz hb0 hb (hs p hp)
    exact plP_sh this.1 this.2 (by decide)
  rw [List.length_map, List.length_map] at this
  exact this.mono (by omega)
theorem rw_sp (b : Int) (ps : List Pt) : Sp 3 (rwP b ps) := Sp.list (k := 2) (ps := (ps.map (tq b)).map fun p : Rat × Rat => plP p.1 p.2) fun p hp => by
  obtain ⟨q, _, rfl⟩ := List.mem_map.mp hp
  exact plP_sp _ _
theorem rws_sp (b : Int) (pss : List (List Pt)) : Sp 4 (.list (pss.map (rwP b))) := Sp.list (k := 3) fun p hp => by
  obtain ⟨q, _, rfl⟩ := List.mem_map.mp hp
  exact rw_sp b q
def resP : Option (Ed × Ed) → PyData
  | none => .none
  | some (e, o) => .tuple [.tuple [.int (e.g : Nat), .int (e.at' : Nat)], .tuple [.int (o.g : Nat), .int (o.at' : Nat)]]
theorem res_pd (r : Option (Ed × Ed)) : pdata (resD r) = some (resP r) := by
  rcases r with _ | ⟨e, o⟩ <;> rfl
def RsOk (r : Option (Ed × Ed)) : Prop := ∀ e o, r = some (e, o) → e.g < 2 ^ 64 ∧ e.at' < 2 ^ 64 ∧ o.g < 2 ^ 64 ∧ o.at' < 2 ^ 64
theorem Sh.nat {n : Nat} (h : n < 2 ^ 64) : Sh 1921 (.int (n : Nat)) := Sh.int (Nat.lt_of_le_of_lt (log_lt (k := 64) (by omega)) (by decide))
theorem res_sh {r : Option (Ed × Ed)} (h : RsOk r) : Sh 16000 (resP r) := by
  rcases r with _ | ⟨e, o⟩
  · exact ⟨rfl, Tx.mono (n := 4) (.of _ (by decide +kernel)) (by decide)⟩
  · obtain ⟨h1, h2, h3, h4⟩ := h e o rfl
    have t : ∀ a b : Nat, a < 2 ^ 64 → b < 2 ^ 64 → Sh 3849 (.tuple [.int (a : Nat), .int (b : Nat)]) := fun a b ha hb => Sh.tuple (n := 1921) fun p hp => by
      simp only [List.mem_cons, List.not_mem_nil, or_false] at hp
      rcases hp with rfl | rfl
      · exact Sh.nat ha
      · exact Sh.nat hb
    exact (Sh.tuple (n := 3849) fun p hp => by
      simp only [List.mem_cons, List.not_mem_nil, or_false] at hp
      rcases hp with rfl | rfl
      · exact t _ _ h1 h2
      · exact t _ _ h3 h4).mono (by simp only [List.length_cons, List.length_nil]; decide)
theorem res_dp (r : Option (Ed × Ed)) : (resP r).depth ≤ 60 := by
  rcases r with _ | ⟨e, o⟩
  · exact Nat.zero_le _
  · exact Nat.le_trans (show _ ≤ 2 from Nat.le_refl _) (by decide)
theorem eds_at {f : Pt} : ∀ (r : List Pt) (i : Nat), ∀ e ∈ eds f i r, e.1 < i + r.length
  | [], i, e, h => by simp [eds] at h
  | x :: r, i, e, h => by
    have h' : e ∈ (if r.headD f ≠ x then (i, x, r.headD f) :: eds f (i + 1) r else eds f (i + 1) r) := h
    rw [List.length_cons]
    split at h'
    · rcases List.mem_cons.mp h' with z | z
      · rw [z]
        dsimp only
        omega
      · have := eds_at r (i + 1) e z
        omega
    · have := eds_at r (i + 1) e h'
      omega
theorem allE_at : ∀ (rows : List (List Pt)) (g m : Nat), (∀ r ∈ rows, r.length ≤ m) → ∀ e ∈ allE g rows, e.at' < m ∧ e.g < g + rows.length
  | [], _, _, _, e, h => by simp [allE] at h
  | ps :: r, g, m, hl, e, h => by
    rw [List.length_cons]
    rcases List.mem_append.mp (show e ∈ edRow g ps ++ allE (g + 1) r from h) with z | z
    · obtain ⟨i, hi⟩ := List.getElem?_of_mem z
      obtain ⟨h1, _, _, h4⟩ := row_get hi
      have := eds_at ps 0 _ (List.mem_of_getElem? h4)
      have h5 := hl ps List.mem_cons_self
      dsimp only at this
      omega
    · have := allE_at r (g + 1) m (fun q hq => hl q (List.mem_cons_of_mem _ hq)) e z
      omega
theorem bad_mem {R : Ed → Ed → Bool} : ∀ {L : List Ed} {e o : Ed}, fstBad R L = some (e, o) → e ∈ L ∧ o ∈ L
  | [], _, _, h => by cases h
  | x :: r, e, o, h => by
    have h' : (match r.find? (R x) with
      | some o => some (x, o)
      | none => fstBad R r) = some (e, o) := h
    cases hf : r.find? (R x) with
    | none =>
      rw [hf] at h'
      obtain ⟨a, b⟩ := bad_mem h'
      exact ⟨List.mem_cons_of_mem _ a, List.mem_cons_of_mem _ b⟩
    | some y =>
      rw [hf] at h'
      cases h'
      exact ⟨List.mem_cons_self, List.mem_cons_of_mem _ (List.mem_of_find?_eq_some hf)⟩
def ansR (rows : List (List Pt)) : Option (Ed × Ed) := fstBad R2 (allE 0 rows)
theorem ans_ok {rows : List (List Pt)} (h4 : rows.length ≤ 4) (hr : ∀ r ∈ rows, r.length ≤ 100) : RsOk (ansR rows) := fun e o h => by
  obtain ⟨a, b⟩ := bad_mem h
  have h1 := allE_at rows 0 100 hr e a
  have h2 := allE_at rows 0 100 hr o b
  omega
section
variable {κ : Kap} {X : Str → List D → Kap → Prop} {Q : DQ}
theorem repr_rws {b : Int} {pss : List (List Pt)} (hb0 : 0 < b) (hb : b ≤ 64) (h4 : pss.length ≤ 4) (hl : ∀ ps ∈ pss, ps.length ≤ 100) (hs : ∀ ps ∈ pss, ∀ p ∈ ps, Sm p) (h : SeqAt.shaped (.str (PyData.shown (.list (pss.map (rwP b))))) = true → Q (.str (PyData.shown (.list (pss.map (rwP b))))) κ) : fRepr [.node .lst (pss.map (rwD b))] κ Q := by
  have := Sh.list (n := 770902) (ps := pss.map (rwP b)) fun q hq => by
    obtain ⟨ps, hp, rfl⟩ := List.mem_map.mp hq
    exact rw_sh hb0 hb (hl ps hp) (hs ps hp)
  rw [List.length_map] at this
  exact repr_sh (rws_pd b pss) (this.mono (m := 3083618) (by omega)) (by decide) (Nat.le_trans (rws_sp b pss).2 (by decide)) fun t => h t.shaped
theorem repr_res {r : Option (Ed × Ed)} (hr : RsOk r) (h : SeqAt.shaped (.str (resP r).shown) = true → Q (.str (resP r).shown) κ) : fRepr [resD r] κ Q :=
  repr_sh (res_pd r) (res_sh hr) (by decide) (res_dp r) fun t => h t.shaped
structure Rk (base : Int) (rows : List (List Pt)) : Prop where
  b0 : 0 < base
  b1 : base ≤ 64
  l1 : 1 ≤ rows.length
  l4 : rows.length ≤ 4
  rl : ∀ r ∈ rows, 1 ≤ r.length ∧ r.length ≤ 100
  pt : ∀ r ∈ rows, ∀ p ∈ r, Sw p
def entD (base : Int) (rows : List (List Pt)) : D := .node .tup [.node .lst (rows.map (rwD base)), resD (ansR rows)]
def Ent (e : D) : Prop := ∃ base rows, Rk base rows ∧ e = entD base rows
theorem Rk.sm {base : Int} {rows : List (List Pt)} (h : Rk base rows) : ∀ r ∈ rows, ∀ p ∈ r, Sm p := fun r hr p hp => by
  obtain ⟨h1, h2⟩ := h.pt r hr p hp
  exact ⟨Nat.lt_trans h1 (by decide), Nat.lt_trans h2 (by decide)⟩
theorem Rk.rs {base : Int} {rows : List (List Pt)} (h : Rk base rows) : RsOk (ansR rows) := ans_ok h.l4 fun r hr => (h.rl r hr).2
theorem first_h {base : Int} {rows : List (List Pt)} (k : Rk base rows) (h : ∀ κ', Fa κ κ' → Q (resD (ansR rows)) κ') : sp_first_crossing [.node .lst (rows.map (rwD base))] κ X Q := by
  have em : ∀ p : Pt, mvP (0, 0) 1 p = p := fun p => by
    show ((p.1 + 0) * 1, (p.2 + 0) * 1) = p
    rw [Int.add_zero, Int.add_zero, Int.mul_one, Int.mul_one]
  refine first_i (b := base) (t := (0, 0)) (g := 1) (rows := rows) ?_ k.b0 k.b1 (by decide) k.l1 k.l4 k.rl (fun r hr p hp => ?_) h
  · have := rows_w (κ := κ) (d := .node .lst (rows.map (rwD base))) (b := base) (pss := rows) (f := rwD base) .lst fun ps => .lst
    simp only [em]
    exact this
  · rw [em]
    exact k.sm r hr p hp
theorem first_o {base g : Int} {t : Pt} {rows : List (List Pt)} (k : Rk base rows) (hg : 0 < g ∧ g < 16) (ht : t.1.natAbs < 2 ^ 6 ∧ t.2.natAbs < 2 ^ 6) (h : ∀ κ', Fa κ κ' → Q (resD (ansR rows)) κ') : sp_first_crossing [.node .tup ((rows.map fun r => r.map (mvP t g)).map (rwT base))] κ X Q := by
  refine first_i (b := base) (t := t) (g := g) (rows := rows) ?_ k.b0 k.b1 hg.1 k.l1 k.l4 k.rl (fun r hr p hp => ?_) h
  · have e2 : (rows.map fun r => r.map (mvP t g)).map (fun ps => ps.map (tq base)) = rows.map fun ps => ps.map fun p => tq base (mvP t g p) := by
      rw [List.map_map]
      refine List.map_congr_left fun ps _ => ?_
      show (ps.map (mvP t g)).map (tq base) = _
      rw [List.map_map]
      rfl
    rw [← e2]
    exact rows_w (f := rwT base) .tup fun ps => .tup
  · obtain ⟨h1, h2⟩ := k.pt r hr p hp
    have b1 := mul_bd (i := p.1 + t.1) (j := g) (a := 14) (b := 4) (by have := ht.1; omega) (by omega)
    have b2 := mul_bd (i := p.2 + t.2) (j := g) (a := 14) (b := 4) (by have := ht.2; omega) (by omega)
    exact ⟨bd_mono b1 (by decide), bd_mono b2 (by decide)⟩
theorem cut_mem {xs : List D} {lo hi : Option Int} {e : D} (h : e ∈ cutD xs lo hi) : e ∈ xs := List.mem_of_mem_drop (List.mem_of_mem_take h)
theorem cut_len {xs : List D} {lo hi : Option Int} : (cutD xs lo hi).length ≤ xs.length := by
  unfold cutD
  rw [List.length_take, List.length_drop]
  omega
theorem RwI.at {d : D} {rows : List (List Pt)} (h : RwI κ d rows) : ∃ xs, WL κ d xs ∧ xs.length = rows.length ∧ ∀ (i : Nat) (y : D), xs[i]? = some y → ∃ r, rows[i]? = some r ∧ WL κ y (r.map prD) := by
  obtain ⟨xs, w, l, q⟩ := h
  refine ⟨xs, w, l, fun i y hy => ?_⟩
  have hi := (List.getElem?_eq_some_iff.mp hy).1
  obtain ⟨e, h1, h2⟩ := q i rows[i] (List.getElem?_eq_getElem (by omega))
  rw [hy] at h1
  cases h1
  exact ⟨_, List.getElem?_eq_getElem (by omega), h2⟩
end



theorem WL.avoid {κ : Kap} {d : D} {n : Nat} {c : Cell} {xs es : List D} (h : WL κ d xs) (e : κ n = some (.live .lst es)) (hne : xs ≠ es) : WL (kset κ n c) d xs := by
  cases h with
  | lst => exact .lst
  | @cell m _ e' =>
    refine .cell ?_
    rw [kset_ne fun z => ?_]
    · exact e'
    · rw [z, e] at e'
      cases e'
      exact hne rfl
theorem ent_ne {r : List Pt} {es : List D} (hes : ∀ e ∈ es, Ent e) (hr : 1 ≤ r.length) : r.map prD ≠ es := fun z => by
  cases r with
  | nil => simp at hr
  | cons p r =>
    obtain ⟨base, rows, _, e⟩ := hes (prD p) (by rw [← z]; exact List.mem_cons_self)
    unfold prD entD at e
    cases e
theorem RwI.avoid {κ : Kap} {d : D} {n : Nat} {c : Cell} {es : List D} {base : Int} {rows : List (List Pt)} (h : RwI κ d rows) (e : κ n = some (.live .lst es)) (hes : ∀ e ∈ es, Ent e) (K : Rk base rows) : RwI (kset κ n c) d rows := by
  obtain ⟨xs, w, l, q⟩ := h
  refine ⟨xs, w.avoid e fun z => ?_, l, fun i r hr => ?_⟩
  · have h1 := K.l1
    have hlt : 0 < rows.length := by omega
    obtain ⟨y, hy, wy⟩ := q 0 rows[0] (List.getElem?_eq_getElem hlt)
    obtain ⟨base', rows', _, e'⟩ := hes y (by rw [← z]; exact List.mem_of_getElem? hy)
    unfold entD at e'
    rw [e'] at wy
    cases wy
  · obtain ⟨y, hy, wy⟩ := q i r hr
    exact ⟨y, hy, wy.avoid e (ent_ne hes (K.rl r (List.mem_of_getElem? hr)).1)⟩
theorem RwI.fr {κ κ' : Kap} {d : D} {b m : Nat} {base : Int} {rows : List (List Pt)} (h : RwI κ d rows) (B : By b m κ) (f : Fr b κ κ') (K : Rk base rows) : RwI κ' d rows := by
  obtain ⟨x, y, u, z, e, _⟩ := B
  have go : ∀ {d : D} {xs : List D}, WL κ d xs → xs ≠ [.int x, .int y, .int u, .int z] → WL κ' d xs := fun h hne => by
    cases h with
    | lst => exact .lst
    | @cell m _ e' =>
      refine .cell (f _ _ (fun q => ?_) e')
      rw [q, e] at e'
      cases e'
      exact hne rfl
  obtain ⟨xs, w, l, q⟩ := h
  refine ⟨xs, go w fun z => ?_, l, fun i r hr => ?_⟩
  · have h1 := K.l1
    obtain ⟨y', hy, wy⟩ := q 0 rows[0] (List.getElem?_eq_getElem (by omega))
    rw [z] at hy
    cases hy
    cases wy
  · obtain ⟨y', hy, wy⟩ := q i r hr
    refine ⟨y', hy, go wy fun z => ?_⟩
    have := (K.rl r (List.mem_of_getElem? hr)).1
    cases r with
    | nil => simp at this
    | cons p r => cases z
theorem at_last {es : List D} {x : D} : L2.atI (es ++ [x]) (-1) = some x := by
  unfold L2.atI L2.ixN
  rw [if_neg (by decide), if_pos (by rw [List.length_append]; simp; omega)]
  show (es ++ [x])[_]? = some x
  rw [show (-1 + (((es ++ [x]).length : Nat) : Int)).toNat = es.length by rw [List.length_append]; simp; omega]
  simp
theorem law_true : ∀ ns : List Int, ns.length ≤ 63 → sp_law [.node .klst (ns.map D.int)] (fun _ => none) (fun _ _ _ => False) (fun d _ => d = .bl true) := by
  intro ns hns
  generalize (fun _ => none : Kap) = κ0
  (unfold sp_law; refine s_sp rfl ?_; simp only [startD, List.map_cons, List.map_nil, List.length_cons, List.length_nil, Nat.zero_add, Nat.reduceAdd, Nat.reduceSub, List.replicate, List.cons_append, List.nil_append]; unfold b_law)
  (repeat walk_at "st")
  refine e_nwt fun n1 hn1 => ?_
  have e0 : (kset κ0 n1 (.live .lst [])) n1 = some (.live .lst []) := kset_same
  generalize kset κ0 n1 (.live .lst []) = κ1 at e0
  clear hn1 κ0
  (repeat walk_at "st")
  rw [List.length_map]
  have hr : ∃ r : Nat, (if (if (ns.length : Int) < 6 then (ns.length : Int) else 6) > 2 then (if (ns.length : Int) < 6 then (ns.length : Int) else 6) else 2) = (r : Int) ∧ r ≤ 6 := by
    refine ⟨(if (if (ns.length : Int) < 6 then (ns.length : Int) else 6) > 2 then (if (ns.length : Int) < 6 then (ns.length : Int) else 6) else 2).toNat, ?_, ?_⟩
    · split <;> split <;> omega
    · split <;> split <;> omega
  obtain ⟨r, er, hr⟩ := hr
  rw [er]
  (repeat walk_at "st")
  refine dl_ix (fun i δ κ' => ∃ (es : List D) (a2 a3 a4 a5 a6 a7 a8 a9 a10 a11 a12 a13 a14 : Option D), δ = [some (.node .klst (ns.map D.int)), some (.cell n1), a2, a3, a4, a5, a6, a7, a8, a9, a10, a11, a12, a13, a14] ∧ κ' n1 = some (.live .lst es) ∧ (∀ e ∈ es, Ent e) ∧ es.length = i) ?_ ?_ ⟨[], _, _, _, _, _, _, _, _, _, _, _, _, _, rfl, e0, fun e h => absurd h List.not_mem_nil, rfl⟩
  · rintro δ κ ⟨es, a2, a3, a4, a5, a6, a7, a8, a9, a10, a11, a12, a13, a14, rfl, _⟩
    refine ⟨trivial, ?_⟩
    (repeat walk_at "st")
    rfl
  · rintro i d δ κ L hd hL ⟨es, a2, a3, a4, a5, a6, a7, a8, a9, a10, a11, a12, a13, a14, rfl, e1, hes, hel⟩
    obtain ⟨hi, rfl⟩ := rangeD_get hd
    refine ⟨trivial, ?_⟩
    clear e0 κ1
    (repeat walk_at "st")
    rw [Int.zero_add]
    refine cell_spec (by omega) fun c => ?_
    (repeat walk_at "st")
    refine box_spec fun b κ2 hb B0 f0 => ?_
    have hnb : n1 ≠ b := kne e1 hb
    have e2 := f0 _ _ e1
    clear f0 e1
    (repeat walk_at "st")
    refine take_spec B0 (by omega) (by decide) (by decide) fun t1 κ3 t10 t11 B1 f1 => ?_
    (repeat walk_at "st")
    refine take_spec B1 (by omega) (by decide) (by decide) fun t2 κ4 c0 c1 B2 f2 => ?_
    refine ix_mem c0 c1 fun d1 hd1 => ?_
    have ed : ∃ w : Int, d1 = .int w ∧ 0 < w ∧ w ≤ 64 := by
      simp only [List.mem_cons, List.not_mem_nil, or_false] at hd1
      rcases hd1 with rfl | rfl | rfl | rfl | rfl
      · exact ⟨_, rfl, by omega, by omega⟩
      · exact ⟨_, rfl, by omega, by omega⟩
      · exact ⟨_, rfl, by omega, by omega⟩
      · exact ⟨_, rfl, by omega, by omega⟩
      · exact ⟨_, rfl, by omega, by omega⟩
    obtain ⟨base, rfl, hb0, hb64⟩ := ed
    have e4 := f2 _ _ hnb (f1 _ _ hnb e2)
    clear f1 f2 B0 B1 e2
    (repeat walk_at "st")
    refine scene_q B2 (by omega) fun n2 κ5 rows0 hn2 hnb2 e5 hrl hrp B5 f5 => ?_
    have e51 := f5 _ _ hnb e4
    clear f5 e4 B2
    refine g_n5 (s_seq (s_thr (fun δ κ' => ∃ (d : D) (rows : List (List Pt)) (a13 a14 : Option D), δ = [some (.node .klst (ns.map D.int)), some (.cell n1), some (.int (i : Int)), some (.cell b), some (.int base), some d, a6, a7, a8, a9, a10, a11, a12, a13, a14] ∧ RwI κ' d rows ∧ Rk base rows ∧ κ' n1 = some (.live .lst es) ∧ By b 1500 κ') ?_ ?_))
    · intro n' hn'
      have fin : ∀ κ6, κ6 n2 = some (.live .lst (rows0.map rwI)) → κ6 n1 = some (.live .lst es) → By b 1500 κ6 → n' [some (.node .klst (ns.map D.int)), some (.cell n1), some (.int (i : Int)), some (.cell b), some (.int base), some (.cell n2), a6, a7, a8, a9, a10, a11, a12, a13, a14] κ6 := fun κ6 h1 h2 h3 => by
        refine hn' _ _ ⟨_, rows0, _, _, rfl, ⟨_, .cell h1, by rw [List.length_map], fun j r hr => ⟨rwI r, by rw [List.getElem?_map, hr]; rfl, .lst⟩⟩, ⟨hb0, hb64, hrl.1, hrl.2, fun r hr => (hrp r hr).1, fun r hr => (hrp r hr).2⟩, h2, h3⟩
      (repeat walk_at "st")
      refine i_d (fun h1 => ?_) fun h1 => ?_
      · (repeat walk_at "st")
        refine take_spec B5 (by omega) (by decide) (by decide) fun t3 κ6 _ _ B6 f6 => ?_
        have e61 := f6 _ _ hnb e51
        have e62 := f6 _ _ hnb2 e5
        (repeat walk_at "st")
        refine i_d (fun h2 => ?_) fun h2 => ?_
        · (repeat walk_at "st")
          refine comb_q B6 (by omega) fun n3 κ7 ps hn3 hnb3 e7 hpl hps B7 f7 => ?_
          have e71 := f7 _ _ hnb e61
          (repeat walk_at "st")
          refine take_spec B7 (by omega) (by decide) (by decide) fun t4 κ8 _ _ B8 f8 => ?_
          have e8 := f8 _ _ hnb3 e7
          have e81 := f8 _ _ hnb e71
          (repeat walk_at "st")
          refine i_d (fun h3 => ?_) fun h3 => ?_
          · (repeat walk_at "st")
            refine comb_q B8 (by omega) fun n4 κ9 qs hn4 hnb4 e9 hql hqs B9 f9 => ?_
            have e91 := f9 _ _ hnb e81
            have e93 := f9 _ _ hnb3 e8
            refine q_cell e9 ?_
            intro n5 hn5
            refine lcLoop_ix (fun j acc κ' => acc = (qs.take j).map (fun p => prD (p.1 + 300, p.2)) ∧ κ' n5 = some (.live .lst acc) ∧ Fa κ9 κ') ?_ ?_ ⟨rfl, kset_same, Fa.new hn5⟩
            · rintro acc κ10 ⟨rfl, e10, f10⟩
              refine ⟨f10 _ _ e9, e10, ?_⟩
              rw [List.length_map, List.take_length]
              have f11 := f10.put (c := .dead) hn5
              generalize kset κ10 n5 .dead = κ11 at f11
              clear e10 f10
              (repeat walk_at "st")
              refine hn' _ _ ⟨_, [ps, qs.map fun p => (p.1 + 300, p.2), [(90, -4), (130, -4), (130, 30), (90, 30)]], _, _, rfl, ⟨_, .lst, rfl, fun j r hr => ?_⟩, ⟨hb0, hb64, by simp, by simp, fun r hr => ?_, fun r hr => ?_⟩, f11 _ _ e91, (By.fa' B9 f11).mono (by omega)⟩
              · match j, hr with
                | 0, hr =>
                  cases hr
                  exact ⟨_, rfl, .cell (f11 _ _ e93)⟩
                | 1, hr =>
                  cases hr
                  refine ⟨_, rfl, ?_⟩
                  rw [List.map_map]
                  exact .lst
                | 2, hr =>
                  cases hr
                  exact ⟨_, rfl, .lst⟩
                | j + 3, hr => simp at hr
              · simp only [List.mem_cons, List.not_mem_nil, or_false] at hr
                rcases hr with rfl | rfl | rfl
                · omega
                · rw [List.length_map]
                  omega
                · decide
              · simp only [List.mem_cons, List.not_mem_nil, or_false] at hr
                rcases hr with rfl | rfl | rfl
                · exact fun p hp => (hps p hp).w
                · intro p hp
                  obtain ⟨q, hq, rfl⟩ := List.mem_map.mp hp
                  obtain ⟨h5, h6⟩ := hqs q hq
                  exact ⟨by dsimp only; omega, by dsimp only; omega⟩
                · intro p hp
                  simp only [List.mem_cons, List.not_mem_nil, or_false] at hp
                  rcases hp with rfl | rfl | rfl | rfl <;> exact ⟨by decide, by decide⟩
            · rintro j e acc κ10 L2 he hL2 ⟨rfl, e10, f10⟩
              rw [List.getElem?_map, Option.map_eq_some_iff] at he
              obtain ⟨q, hq, rfl⟩ := he
              refine ⟨f10 _ _ e9, ?_⟩
              unfold prD
              rw [bi_inr rfl]
              simp only [dwipe, List.set_cons_zero, List.set_cons_succ]
              (repeat walk_at "st")
              refine ⟨e10, by rw [List.length_map, List.length_take]; unfold sizeLine; omega, hL2 _ _ ⟨?_, kset_same, f10.put hn5⟩⟩
              rw [List.take_succ, hq, List.map_append]
              rfl
          · (repeat walk_at "st")
            refine hn' _ _ ⟨_, [ps], _, _, rfl, ⟨_, .lst, rfl, fun j r hr => ?_⟩, ⟨hb0, hb64, by simp, by simp, fun r hr => ?_, fun r hr => ?_⟩, e81, B8.mono (by omega)⟩
            · match j, hr with
              | 0, hr =>
                cases hr
                exact ⟨_, rfl, .cell e8⟩
              | j + 1, hr => simp at hr
            · rw [List.mem_singleton.mp hr]
              omega
            · rw [List.mem_singleton.mp hr]
              exact fun p hp => (hps p hp).w
        · (repeat walk_at "st")
          exact fin _ e62 e61 (B6.mono (by omega))
      · (repeat walk_at "st")
        exact fin _ e5 e51 (B5.mono (by omega))
    · rintro δ κ6 ⟨d, rows, b13, b14, rfl, R, K, e6, B6⟩
      clear e51 e5 B5 hrp hrl hn2 hnb2
      (repeat walk_at "st")
      refine isq_cell e6 ?_
      (repeat walk_at "st")
      obtain ⟨xs, w, hxl, hx⟩ := R.at
      refine q_wk w.wk fun gd hgd => ?_
      intro n3 hn3
      refine lcLoop_ix (fun j acc κ' => acc = (rows.take j).map (rwD base) ∧ κ' n3 = some (.live .lst acc) ∧ Fa κ6 κ') ?_ ?_ ⟨rfl, kset_same, Fa.new hn3⟩
      · rintro acc κ7 ⟨rfl, e7, f7⟩
        refine ⟨hgd _ f7, e7, ?_⟩
        rw [hxl, List.take_length]
        have f8 := f7.put (c := .dead) hn3
        generalize kset κ7 n3 .dead = κ8 at f8
        clear e7 f7
        (repeat walk_at "st")
        refine ldue_q (R.mono f8) K.l4 (fun r hr => (K.rl r hr).2) (K.sm) fun κ9 f9 => ?_
        have f09 := f8.trans f9
        have e9 := f09 _ _ e6
        have B9 := By.fa' B6 f09
        have R9 := R.mono f09
        clear f8 f9 f09 e6 B6 R w hx hgd xs hxl
        (repeat walk_at "st")
        have hb1 : b ≠ n1 := Ne.symm hnb
        refine f_app (d := entD base rows) e9 (by rw [hel]; omega) ?_
        have e10 : (kset κ9 n1 (.live .lst (es ++ [entD base rows]))) n1 = some (.live .lst (es ++ [entD base rows])) := kset_same
        have B10 : By b 1500 (kset κ9 n1 (.live .lst (es ++ [entD base rows]))) := B9.set hnb
        have R10 : RwI (kset κ9 n1 (.live .lst (es ++ [entD base rows]))) d rows := R9.avoid e9 hes K
        generalize kset κ9 n1 (.live .lst (es ++ [entD base rows])) = κ10 at e10 B10 R10 ⊢
        clear e9 B9 R9
        have hes' : ∀ e ∈ es ++ [entD base rows], Ent e := fun e he => (List.mem_append.mp he).elim (hes e) fun z => by rw [List.mem_singleton.mp z]; exact ⟨base, rows, K, rfl⟩
        have hel' : (es ++ [entD base rows]).length = i + 1 := by rw [List.length_append, hel]; rfl
        (repeat walk_at "st")
        refine sl_C e10 ?_
        (repeat walk_at "st")
        refine sl_C e10 ?_
        (repeat walk_at "st")
        refine f_adL (by have h1 := cut_len (xs := es ++ [entD base rows]) (lo := some (-2)) (hi := none); have h2 := cut_len (xs := es ++ [entD base rows]) (lo := some (-2)) (hi := some (-1)); unfold sizeLine; omega) ?_
        refine q_L ?_
        have hit : ∀ e ∈ cutD (es ++ [entD base rows]) (some (-2)) none ++ cutD (es ++ [entD base rows]) (some (-2)) (some (-1)), Ent e := fun e he => (List.mem_append.mp he).elim (fun z => hes' e (cut_mem z)) fun z => hes' e (cut_mem z)
        generalize cutD (es ++ [entD base rows]) (some (-2)) none ++ cutD (es ++ [entD base rows]) (some (-2)) (some (-1)) = items at hit ⊢
        refine dl_ix (fun j δ κ' => ∃ (a6 a7 a8 : Option D), δ = [some (.node .klst (ns.map D.int)), some (.cell n1), some (.int (i : Int)), some (.cell b), some (.int base), some d, a6, a7, a8, a9, a10, a11, a12, b13, b14] ∧ Fa κ10 κ') ?_ ?_ ⟨_, _, _, rfl, Fa.refl⟩
        · rintro δ κ11 ⟨a6, a7, a8, rfl, f11⟩
          refine ⟨trivial, ?_⟩
          have e11 := f11 _ _ e10
          have B11 := By.fa' B10 f11
          have R11 := R10.mono f11
          clear f11 e10 B10 R10 hit
          (repeat walk_at "st")
          refine take_spec B11 (by omega) (by decide) (by decide) fun t1 κ12 t10 t11 B12 f12 => ?_
          (repeat walk_at "st")
          refine take_spec B12 (by omega) (by decide) (by decide) fun t2 κ13 t20 t21 B13 f13 => ?_
          (repeat walk_at "st")
          refine take_spec B13 (by omega) (by decide) (by decide) fun t3 κ14 t30 t31 B14 f14 => ?_
          have e14 := f14 _ _ hnb (f13 _ _ hnb (f12 _ _ hnb e11))
          have R14 := R11.fr B11 ((f12.trans f13).trans f14) K
          clear f12 f13 f14 e11 R11 B11 B12 B13
          (repeat walk_at "st")
          obtain ⟨xs, w, hxl, hx⟩ := R14.at
          have ht : (t1 - 20).natAbs < 2 ^ 6 ∧ (t2 - 20).natAbs < 2 ^ 6 := by omega
          have hg : 0 < 1 + t3 ∧ 1 + t3 < 16 := by omega
          generalize t1 - 20 = tx at ht ⊢
          generalize t2 - 20 = ty at ht ⊢
          generalize 1 + t3 = g at hg ⊢
          refine q_wk w.wk fun gd hgd => ?_
          intro n4 hn4
          refine lcLoop_ix (fun j acc κ' => acc = (rows.take j).map (fun r => rwI (r.map (mvP (tx, ty) g))) ∧ κ' n4 = some (.live .lst acc) ∧ Fa κ14 κ') ?_ ?_ ⟨rfl, kset_same, Fa.new hn4⟩
          · rintro acc κ15 ⟨rfl, e15, f15⟩
            refine ⟨hgd _ f15, e15, ?_⟩
            rw [hxl, List.take_length]
            have f16 := f15.put (c := .dead) hn4
            generalize kset κ15 n4 .dead = κ16 at f16
            have e16 := f16 _ _ e14
            clear e15 f15 hx hgd w R14 hn4
            (repeat walk_at "st")
            intro n5 hn5
            refine lcLoop_ix (fun j acc κ' => acc = ((rows.map fun r => r.map (mvP (tx, ty) g)).take j).map (rwT base) ∧ κ' n5 = some (.live .lst acc) ∧ Fa κ16 κ') ?_ ?_ ⟨rfl, kset_same, Fa.new hn5⟩
            · rintro acc κ17 ⟨rfl, e17, f17⟩
              refine ⟨trivial, e17, ?_⟩
              have f18 := f17.put (c := .dead) hn5
              generalize kset κ17 n5 .dead = κ18 at f18
              have e18 := f18 _ _ e16
              rw [List.take_of_length_le (by rw [List.length_map, List.length_map]; exact Nat.le_refl _)]
              clear e17 f17 hn5
              (repeat walk_at "st")
              refine first_o K hg ht fun κ19 f19 => ?_
              have e19 := f19 _ _ e18
              (repeat walk_at "st")
              refine repr_res K.rs fun sh => ?_
              (repeat walk_at "st")
              rw [ix_cell e19]
              refine ⟨entD base rows, at_last, ?_⟩
              unfold entD
              (repeat walk_at "st")
              refine repr_res K.rs fun _ => ?_
              (repeat walk_at "st")
              refine f_neSS sh ?_
              (repeat walk_at "st")
              refine hL _ _ ⟨_, _, _, _, _, _, _, _, _, _, _, _, _, _, rfl, e19, hes', hel'⟩
            · rintro j y acc κ17 L2 hy hL2 ⟨rfl, e17, f17⟩
              rw [List.getElem?_map, Option.map_eq_some_iff] at hy
              obtain ⟨r, hr, rfl⟩ := hy
              have hrm := K.rl r (List.mem_of_getElem? hr)
              have hj := (List.getElem?_eq_some_iff.mp hr).1
              have hr' : (rows.map fun r => r.map (mvP (tx, ty) g))[j]? = some (r.map (mvP (tx, ty) g)) := by rw [List.getElem?_map, hr]; rfl
              refine ⟨trivial, ?_⟩
              rw [bi_inl]
              simp only [dwipe, List.set_cons_zero, List.set_cons_succ]
              (repeat walk_at "st")
              refine told_q (ps := r.map (mvP (tx, ty) g)) .lst hb0 hb64 (by rw [List.length_map]; exact hrm.2) fun κ18 f18 => ?_
              refine tp_L ?_
              refine ⟨f18 _ _ e17, by rw [List.length_map, List.length_take]; have := K.l4; unfold sizeLine; omega, hL2 _ _ ⟨?_, kset_same, (f17.trans f18).put hn5⟩⟩
              rw [List.take_succ, hr', List.map_append]
              rfl
          · rintro j y acc κ15 L2 hy hL2 ⟨rfl, e15, f15⟩
            obtain ⟨r, hr, wr⟩ := hx j y hy
            refine ⟨hgd _ f15, ?_⟩
            rw [bi_inl]
            simp only [dwipe, List.set_cons_zero, List.set_cons_succ]
            (repeat walk_at "st")
            refine q_wk2 wr.wk f15 fun gd2 hgd2 => ?_
            intro n5 hn5
            refine lcLoop_ix (fun j acc κ' => acc = (r.take j).map (fun p => prD (mvP (tx, ty) g p)) ∧ κ' n5 = some (.live .lst acc) ∧ Fa κ15 κ') ?_ ?_ ⟨rfl, kset_same, Fa.new hn5⟩
            · rintro acc κ16 ⟨rfl, e16, f16⟩
              refine ⟨hgd2 _ (f15.trans f16), e16, ?_⟩
              rw [show r.take (r.map prD).length = r from List.take_of_length_le (by rw [List.length_map]; exact Nat.le_refl _)]
              have f17 := f16.put (c := .dead) hn5
              generalize kset κ16 n5 .dead = κ17 at f17
              refine ⟨f17 _ _ e15, by rw [List.length_map, List.length_take]; have := K.l4; unfold sizeLine; omega, hL2 _ _ ⟨?_, kset_same, (f15.trans f17).put hn4⟩⟩
              rw [List.take_succ, hr, List.map_append]
              show _ = _ ++ [rwI (r.map (mvP (tx, ty) g))]
              unfold rwI
              rw [List.map_map]
              rfl
            · rintro k z acc κ16 L3 hz hL3 ⟨rfl, e16, f16⟩
              rw [List.getElem?_map, Option.map_eq_some_iff] at hz
              obtain ⟨p, hp, rfl⟩ := hz
              obtain ⟨p1, p2⟩ := K.pt r (List.mem_of_getElem? hr) p (List.mem_of_getElem? hp)
              have hrl := K.rl r (List.mem_of_getElem? hr)
              refine ⟨hgd2 _ (f15.trans f16), ?_⟩
              unfold prD
              rw [bi_inr rfl]
              simp only [dwipe, List.set_cons_zero, List.set_cons_succ]
              (repeat walk_at "st")
              refine ⟨e16, by rw [List.length_map, List.length_take]; unfold sizeLine; omega, hL3 _ _ ⟨?_, kset_same, f16.put hn5⟩⟩
              rw [List.take_succ, hp, List.map_append]
              rfl
        · rintro j e δ κ11 L2 he hL2 ⟨a6, a7, a8, rfl, f11⟩
          obtain ⟨base', rows', K', rfl⟩ := hit e (List.mem_of_getElem? he)
          refine ⟨trivial, ?_⟩
          unfold entD
          (repeat walk_at "st")
          refine repr_rws K'.b0 K'.b1 K'.l4 (fun r hr => (K'.rl r hr).2) K'.sm fun sh => ?_
          (repeat walk_at "st")
          refine first_h K' fun κ12 f12 => ?_
          (repeat walk_at "st")
          refine repr_res K'.rs fun sh2 => ?_
          (repeat walk_at "st")
          refine repr_res K'.rs fun _ => ?_
          (repeat walk_at "st")
          refine f_neSS sh2 ?_
          (repeat walk_at "st")
          refine repr_rws K'.b0 K'.b1 K'.l4 (fun r hr => (K'.rl r hr).2) K'.sm fun _ => ?_
          (repeat walk_at "st")
          refine f_neSS sh ?_
          (repeat walk_at "st")
          exact hL2 _ _ ⟨_, _, _, rfl, f11.trans f12⟩
      · rintro j y acc κ7 L2 hy hL2 ⟨rfl, e7, f7⟩
        obtain ⟨r, hr, wr⟩ := hx j y hy
        refine ⟨hgd _ f7, ?_⟩
        rw [bi_inl]
        simp only [dwipe, List.set_cons_zero, List.set_cons_succ]
        (repeat walk_at "st")
        refine told_q (wr.mono f7).wk hb0 hb64 (K.rl r (List.mem_of_getElem? hr)).2 fun κ8 f8 => ?_
        refine ⟨f8 _ _ e7, by rw [List.length_map, List.length_take]; have := K.l4; unfold sizeLine; omega, hL2 _ _ ⟨?_, kset_same, (f7.trans f8).put hn3⟩⟩
        rw [List.take_succ, hr, List.map_append]
        rfl

end L_k25
namespace L_k25
open PySem PySem.Spec PyProof.Rows L2 DL
/-! what the top has left -/
theorem all_mk {l : PySem.W.OpenLaw} {w : World} {K : PySem.W.Frag} {h : Heap} {mg : Str → Option Value} {fa : Addr} {f_is_plain : Addr} {od_is_plain an_is_plain : Option Addr} {sl_is_plain : Array (Option Value)} {oc_is_plain kV_is_plain dc_is_plain pm_is_plain cd_is_plain ct_is_plain : Value} {f_common_part : Addr} {od_common_part an_common_part : Option Addr} {sl_common_part : Array (Option Value)} {oc_common_part kV_common_part dc_common_part pm_common_part cd_common_part ct_common_part : Value} {f_is_part : Addr} {od_is_part an_is_part : Option Addr} {sl_is_part : Array (Option Value)} {oc_is_part kV_is_part dc_is_part pm_is_part cd_is_part ct_is_part : Value} {f_is_number : Addr} {od_is_number an_is_number : Option Addr} {sl_is_number : Array (Option Value)} {oc_is_number kV_is_number dc_is_number pm_is_number cd_is_number ct_is_number : Value} {f_is_list : Addr} {od_is_list an_is_list : Option Addr} {sl_is_list : Array (Option Value)} {oc_is_list kV_is_list dc_is_list pm_is_list cd_is_list ct_is_list : Value} {f_need_parts : Addr} {od_need_parts an_need_parts : Option Addr} {sl_need_parts : Array (Option Value)} {oc_need_parts kV_need_parts dc_need_parts pm_need_parts cd_need_parts ct_need_parts : Value} {f_base_of : Addr} {od_base_of an_base_of : Option Addr} {sl_base_of : Array (Option Value)} {oc_base_of kV_base_of dc_base_of pm_base_of cd_base_of ct_base_of : Value} {f_scale_of : Addr} {od_scale_of an_scale_of : Option Addr} {sl_scale_of : Array (Option Value)} {oc_scale_of kV_scale_of dc_scale_of pm_scale_of cd_scale_of ct_scale_of : Value} {f_whole_of : Addr} {od_whole_of an_whole_of : Option Addr} {sl_whole_of : Array (Option Value)} {oc_whole_of kV_whole_of dc_whole_of pm_whole_of cd_whole_of ct_whole_of : Value} {f_in_wholes : Addr} {od_in_wholes an_in_wholes : Option Addr} {sl_in_wholes : Array (Option Value)} {oc_in_wholes kV_in_wholes dc_in_wholes pm_in_wholes cd_in_wholes ct_in_wholes : Value} {f_sign_of : Addr} {od_sign_of an_sign_of : Option Addr} {sl_sign_of : Array (Option Value)} {oc_sign_of kV_sign_of dc_sign_of pm_sign_of cd_sign_of ct_sign_of : Value} {f_side_of : Addr} {od_side_of an_side_of : Option Addr} {sl_side_of : Array (Option Value)} {oc_side_of kV_side_of dc_side_of pm_side_of cd_side_of ct_side_of : Value} {f_is_between : Addr} {od_is_between an_is_between : Option Addr} {sl_is_between : Array (Option Value)} {oc_is_between kV_is_between dc_is_between pm_is_between cd_is_between ct_is_between : Value} {f_do_touch : Addr} {od_do_touch an_do_touch : Option Addr} {sl_do_touch : Array (Option Value)} {oc_do_touch kV_do_touch dc_do_touch pm_do_touch cd_do_touch ct_do_touch : Value} {f_do_fold : Addr} {od_do_fold an_do_fold : Option Addr} {sl_do_fold : Array (Option Value)} {oc_do_fold kV_do_fold dc_do_fold pm_do_fold cd_do_fold ct_do_fold : Value} {f_edges_of : Addr} {od_edges_of an_edges_of : Option Addr} {sl_edges_of : Array (Option Value)} {oc_edges_of kV_edges_of dc_edges_of pm_edges_of cd_edges_of ct_edges_of : Value} {f_is_too_near : Addr} {od_is_too_near an_is_too_near : Option Addr} {sl_is_too_near : Array (Option Value)} {oc_is_too_near kV_is_too_near dc_is_too_near pm_is_too_near cd_is_too_near ct_is_too_near : Value} {f_first_crossing : Addr} {od_first_crossing an_first_crossing : Option Addr} {sl_first_crossing : Array (Option Value)} {oc_first_crossing kV_first_crossing dc_first_crossing pm_first_crossing cd_first_crossing ct_first_crossing : Value} {f__law_cell : Addr} {od__law_cell an__law_cell : Option Addr} {sl__law_cell : Array (Option Value)} {oc__law_cell kV__law_cell dc__law_cell pm__law_cell cd__law_cell ct__law_cell : Value} {f__law_box : Addr} {od__law_box an__law_box : Option Addr} {sl__law_box : Array (Option Value)} {oc__law_box kV__law_box dc__law_box pm__law_box cd__law_box ct__law_box : Value} {f__law_take : Addr} {od__law_take an__law_take : Option Addr} {sl__law_take : Array (Option Value)} {oc__law_take kV__law_take dc__law_take pm__law_take cd__law_take ct__law_take : Value} {f__law_number : Addr} {od__law_number an__law_number : Option Addr} {sl__law_number : Array (Option Value)} {oc__law_number kV__law_number dc__law_number pm__law_number cd__law_number ct__law_number : Value} {f__law_told : Addr} {od__law_told an__law_told : Option Addr} {sl__law_told : Array (Option Value)} {oc__law_told kV__law_told dc__law_told pm__law_told cd__law_told ct__law_told : Value} {f__law_edges : Addr} {od__law_edges an__law_edges : Option Addr} {sl__law_edges : Array (Option Value)} {oc__law_edges kV__law_edges dc__law_edges pm__law_edges cd__law_edges ct__law_edges : Value} {f__law_cross : Addr} {od__law_cross an__law_cross : Option Addr} {sl__law_cross : Array (Option Value)} {oc__law_cross kV__law_cross dc__law_cross pm__law_cross cd__law_cross ct__law_cross : Value} {f__law_along : Addr} {od__law_along an__law_along : Option Addr} {sl__law_along : Array (Option Value)} {oc__law_along kV__law_along dc__law_along pm__law_along cd__law_along ct__law_along : Value} {f__law_shared : Addr} {od__law_shared an__law_shared : Option Addr} {sl__law_shared : Array (Option Value)} {oc__law_shared kV__law_shared dc__law_shared pm__law_shared cd__law_shared ct__law_shared : Value} {f__law_folded : Addr} {od__law_folded an__law_folded : Option Addr} {sl__law_folded : Array (Option Value)} {oc__law_folded kV__law_folded dc__law_folded pm__law_folded cd__law_folded ct__law_folded : Value} {f__law_due : Addr} {od__law_due an__law_due : Option Addr} {sl__law_due : Array (Option Value)} {oc__law_due kV__law_due dc__law_due pm__law_due cd__law_due ct__law_due : Value} {f__law_round : Addr} {od__law_round an__law_round : Option Addr} {sl__law_round : Array (Option Value)} {oc__law_round kV__law_round dc__law_round pm__law_round cd__law_round ct__law_round : Value} {f__law_comb : Addr} {od__law_comb an__law_comb : Option Addr} {sl__law_comb : Array (Option Value)} {oc__law_comb kV__law_comb dc__law_comb pm__law_comb cd__law_comb ct__law_comb : Value} {f__law_scene : Addr} {od__law_scene an__law_scene : Option Addr} {sl__law_scene : Array (Option Value)} {oc__law_scene kV__law_scene dc__law_scene pm__law_scene cd__law_scene ct__law_scene : Value} {f_law : Addr} {od_law an_law : Option Addr} {sl_law : Array (Option Value)} {oc_law kV_law dc_law pm_law cd_law ct_law : Value} {t_MOST_PLACES : Tok} {t_MOST_POLYGONS : Tok} {C_FontError : Addr} {C_NoParts : Addr} {C_NoPlace : Addr} {nm_NoParts q_NoParts : Str} {N_NoParts : Addr} {bs_NoParts : List Value} {sn_NoParts : List Str} {sub_NoParts : List Value} {ab_NoParts : Bool} {col_NoParts : Option Bool} {dd_NoParts : Option Addr} {x0_NoParts x1_NoParts x2_NoParts x3_NoParts x5_NoParts : Option Value} {nm_NoPlace q_NoPlace : Str} {N_NoPlace : Addr} {bs_NoPlace : List Value} {sn_NoPlace : List Str} {sub_NoPlace : List Value} {ab_NoPlace : Bool} {col_NoPlace : Option Bool} {dd_NoPlace : Option Addr} {x0_NoPlace x1_NoPlace x2_NoPlace x3_NoPlace x5_NoPlace : Option Value} {I_NoParts : Addr} {iod_NoParts ian_NoParts : Option Addr} {isl_NoParts : Array (Option Value)} {ioc_NoParts ikV_NoParts idc_NoParts ipm_NoParts icd_NoParts ict_NoParts : Value} {I_NoPlace : Addr} {iod_NoPlace ian_NoPlace : Option Addr} {isl_NoPlace : Array (Option Value)} {ioc_NoPlace ikV_NoPlace idc_NoPlace ipm_NoPlace icd_NoPlace ict_NoPlace : Value} (X : K.In h) (G : h.Ns mainGlobals mg) (hfa : mg "law" = some (.ref fa))
    (a_is_plain : PySem.W.nsIn K mainGlobals "is_plain" = some (some (.ref f_is_plain)))
    (l_is_plain : K.lookup f_is_plain = some ⟨oc_is_plain, od_is_plain, .func (PySem.W.fnOf "is_plain" "is_plain" (defArgs s_is_plain) (defBody s_is_plain) (defScope s_is_plain) .none kV_is_plain dc_is_plain pm_is_plain an_is_plain cd_is_plain ct_is_plain), sl_is_plain⟩)
    (c_is_plain : PySem.W.codeIn K cd_is_plain "is_plain" = true)
    (k_is_plain : PySem.W.keepIn K (.ref f_is_plain) = true)
    (a_common_part : PySem.W.nsIn K mainGlobals "common_part" = some (some (.ref f_common_part)))
    (l_common_part : K.lookup f_common_part = some ⟨oc_common_part, od_common_part, .func (PySem.W.fnOf "common_part" "common_part" (defArgs s_common_part) (defBody s_common_part) (defScope s_common_part) .none kV_common_part dc_common_part pm_common_part an_common_part cd_common_part ct_common_part), sl_common_part⟩)
    (c_common_part : PySem.W.codeIn K cd_common_part "common_part" = true)
    (k_common_part : PySem.W.keepIn K (.ref f_common_part) = true)
    (a_is_part : PySem.W.nsIn K mainGlobals "is_part" = some (some (.ref f_is_part)))
    (l_is_part : K.lookup f_is_part = some ⟨oc_is_part, od_is_part, .func (PySem.W.fnOf "is_part" "is_part" (defArgs s_is_part) (defBody s_is_part) (defScope s_is_part) .none kV_is_part dc_is_part pm_is_part an_is_part cd_is_part ct_is_part), sl_is_part⟩)
    (c_is_part : PySem.W.codeIn K cd_is_part "is_part" = true)
    (k_is_part : PySem.W.keepIn K (.ref f_is_part) = true)
    (a_is_number : PySem.W.nsIn K mainGlobals "is_number" = some (some (.ref f_is_number)))
    (l_is_number : K.lookup f_is_number = some ⟨oc_is_number, od_is_number, .func (PySem.W.fnOf "is_number" "is_number" (defArgs s_is_number) (defBody s_is_number) (defScope s_is_number) .none kV_is_number dc_is_number pm_is_number an_is_number cd_is_number ct_is_number), sl_is_number⟩)
    (c_is_number : PySem.W.codeIn K cd_is_number "is_number" = true)
    (k_is_number : PySem.W.keepIn K (.ref f_is_number) = true)
    (a_is_list : PySem.W.nsIn K mainGlobals "is_list" = some (some (.ref f_is_list)))
    (l_is_list : K.lookup f_is_list = some ⟨oc_is_list, od_is_list, .func (PySem.W.fnOf "is_list" "is_list" (defArgs s_is_list) (defBody s_is_list) (defScope s_is_list) .none kV_is_list dc_is_list pm_is_list an_is_list cd_is_list ct_is_list), sl_is_list⟩)
    (c_is_list : PySem.W.codeIn K cd_is_list "is_list" = true)
    (k_is_list : PySem.W.keepIn K (.ref f_is_list) = true)
    (a_need_parts : PySem.W.nsIn K mainGlobals "need_parts" = some (some (.ref f_need_parts)))
    (l_need_parts : K.lookup f_need_parts = some ⟨oc_need_parts, od_need_parts, .func (PySem.W.fnOf "need_parts" "need_parts" (defArgs s_need_parts) (defBody s_need_parts) (defScope s_need_parts) .none kV_need_parts dc_need_parts pm_need_parts an_need_parts cd_need_parts ct_need_parts), sl_need_parts⟩)
    (c_need_parts : PySem.W.codeIn K cd_need_parts "need_parts" = true)
    (k_need_parts : PySem.W.keepIn K (.ref f_need_parts) = true)
    (a_base_of : PySem.W.nsIn K mainGlobals "base_of" = some (some (.ref f_base_of)))
    (l_base_of : K.lookup f_base_of = some ⟨oc_base_of, od_base_of, .func (PySem.W.fnOf "base_of" "base_of" (defArgs s_base_of) (defBody s_base_of) (defScope s_base_of) .none kV_base_of dc_base_of pm_base_of an_base_of cd_base_of ct_base_of), sl_base_of⟩)
    (c_base_of : PySem.W.codeIn K cd_base_of "base_of" = true)
    (k_base_of : PySem.W.keepIn K (.ref f_base_of) = true)
    (a_scale_of : PySem.W.nsIn K mainGlobals "scale_of" = some (some (.ref f_scale_of)))
    (l_scale_of : K.lookup f_scale_of = some ⟨oc_scale_of, od_scale_of, .func (PySem.W.fnOf "scale_of" "scale_of" (defArgs s_scale_of) (defBody s_scale_of) (defScope s_scale_of) .none kV_scale_of dc_scale_of pm_scale_of an_scale_of cd_scale_of ct_scale_of), sl_scale_of⟩)
    (c_scale_of : PySem.W.codeIn K cd_scale_of "scale_of" = true)
    (k_scale_of : PySem.W.keepIn K (.ref f_scale_of) = true)
    (a_whole_of : PySem.W.nsIn K mainGlobals "whole_of" = some (some (.ref f_whole_of)))
    (l_whole_of : K.lookup f_whole_of = some ⟨oc_whole_of, od_whole_of, .func (PySem.W.fnOf "whole_of" "whole_of" (defArgs s_whole_of) (defBody s_whole_of) (defScope s_whole_of) .none kV_whole_of dc_whole_of pm_whole_of an_whole_of cd_whole_of ct_whole_of), sl_whole_of⟩)
    (c_whole_of : PySem.W.codeIn K cd_whole_of "whole_of" = true)
    (k_whole_of : PySem.W.keepIn K (.ref f_whole_of) = true)
    (a_in_wholes : PySem.W.nsIn K mainGlobals "in_wholes" = some (some (.ref f_in_wholes)))
    (l_in_wholes : K.lookup f_in_wholes = some ⟨oc_in_wholes, od_in_wholes, .func (PySem.W.fnOf "in_wholes" "in_wholes" (defArgs s_in_wholes) (defBody s_in_wholes) (defScope s_in_wholes) .none kV_in_wholes dc_in_wholes pm_in_wholes an_in_wholes cd_in_wholes ct_in_wholes), sl_in_wholes⟩)
    (c_in_wholes : PySem.W.codeIn K cd_in_wholes "in_wholes" = true)
    (k_in_wholes : PySem.W.keepIn K (.ref f_in_wholes) = true)
    (a_sign_of : PySem.W.nsIn K mainGlobals "sign_of" = some (some (.ref f_sign_of)))
    (l_sign_of : K.lookup f_sign_of = some ⟨oc_sign_of, od_sign_of, .func (PySem.W.fnOf "sign_of" "sign_of" (defArgs s_sign_of) (defBody s_sign_of) (defScope s_sign_of) .none kV_sign_of dc_sign_of pm_sign_of an_sign_of cd_sign_of ct_sign_of), sl_sign_of⟩)
    (c_sign_of : PySem.W.codeIn K cd_sign_of "sign_of" = true)
    (k_sign_of : PySem.W.keepIn K (.ref f_sign_of) = true)
    (a_side_of : PySem.W.nsIn K mainGlobals "side_of" = some (some (.ref f_side_of)))
    (l_side_of : K.lookup f_side_of = some ⟨oc_side_of, od_side_of, .func (PySem.W.fnOf "side_of" "side_of" (defArgs s_side_of) (defBody s_side_of) (defScope s_side_of) .none kV_side_of dc_side_of pm_side_of an_side_of cd_side_of ct_side_of), sl_side_of⟩)
    (c_side_of : PySem.W.codeIn K cd_side_of "side_of" = true)
    (k_side_of : PySem.W.keepIn K (.ref f_side_of) = true)
    (a_is_between : PySem.W.nsIn K mainGlobals "is_between" = some (some (.ref f_is_between)))
    (l_is_between : K.lookup f_is_between = some ⟨oc_is_between, od_is_between, .func (PySem.W.fnOf "is_between" "is_between" (defArgs s_is_between) (defBody s_is_between) (defScope s_is_between) .none kV_is_between dc_is_between pm_is_between an_is_between cd_is_between ct_is_between), sl_is_between⟩)
    (c_is_between : PySem.W.codeIn K cd_is_between "is_between" = true)
    (k_is_between : PySem.W.keepIn K (.ref f_is_between) = true)
    (a_do_touch : PySem.W.nsIn K mainGlobals "do_touch" = some (some (.ref f_do_touch)))
    (l_do_touch : K.lookup f_do_touch = some ⟨oc_do_touch, od_do_touch, .func (PySem.W.fnOf "do_touch" "do_touch" (defArgs s_do_touch) (defBody s_do_touch) (defScope s_do_touch) .none kV_do_touch dc_do_touch pm_do_touch an_do_touch cd_do_touch ct_do_touch), sl_do_touch⟩)
    (c_do_touch : PySem.W.codeIn K cd_do_touch "do_touch" = true)
    (k_do_touch : PySem.W.keepIn K (.ref f_do_touch) = true)
    (a_do_fold : PySem.W.nsIn K mainGlobals "do_fold" = some (some (.ref f_do_fold)))
    (l_do_fold : K.lookup f_do_fold = some ⟨oc_do_fold, od_do_fold, .func (PySem.W.fnOf "do_fold" "do_fold" (defArgs s_do_fold) (defBody s_do_fold) (defScope s_do_fold) .none kV_do_fold dc_do_fold pm_do_fold an_do_fold cd_do_fold ct_do_fold), sl_do_fold⟩)
    (c_do_fold : PySem.W.codeIn K cd_do_fold "do_fold" = true)
    (k_do_fold : PySem.W.keepIn K (.ref f_do_fold) = true)
    (a_edges_of : PySem.W.nsIn K mainGlobals "edges_of" = some (some (.ref f_edges_of)))
    (l_edges_of : K.lookup f_edges_of = some ⟨oc_edges_of, od_edges_of, .func (PySem.W.fnOf "edges_of" "edges_of" (defArgs s_edges_of) (defBody s_edges_of) (defScope s_edges_of) .none kV_edges_of dc_edges_of pm_edges_of an_edges_of cd_edges_of ct_edges_of), sl_edges_of⟩)
    (c_edges_of : PySem.W.codeIn K cd_edges_of "edges_of" = true)
    (k_edges_of : PySem.W.keepIn K (.ref f_edges_of) = true)
    (a_is_too_near : PySem.W.nsIn K mainGlobals "is_too_near" = some (some (.ref f_is_too_near)))
    (l_is_too_near : K.lookup f_is_too_near = some ⟨oc_is_too_near, od_is_too_near, .func (PySem.W.fnOf "is_too_near" "is_too_near" (defArgs s_is_too_near) (defBody s_is_too_near) (defScope s_is_too_near) .none kV_is_too_near dc_is_too_near pm_is_too_near an_is_too_near cd_is_too_near ct_is_too_near), sl_is_too_near⟩)
    (c_is_too_near : PySem.W.codeIn K cd_is_too_near "is_too_near" = true)
    (k_is_too_near : PySem.W.keepIn K (.ref f_is_too_near) = true)
    (a_first_crossing : PySem.W.nsIn K mainGlobals "first_crossing" = some (some (.ref f_first_crossing)))
    (l_first_crossing : K.lookup f_first_crossing = some ⟨oc_first_crossing, od_first_crossing, .func (PySem.W.fnOf "first_crossing" "first_crossing" (defArgs s_first_crossing) (defBody s_first_crossing) (defScope s_first_crossing) .none kV_first_crossing dc_first_crossing pm_first_crossing an_first_crossing cd_first_crossing ct_first_crossing), sl_first_crossing⟩)
    (c_first_crossing : PySem.W.codeIn K cd_first_crossing "first_crossing" = true)
    (k_first_crossing : PySem.W.keepIn K (.ref f_first_crossing) = true)
    (a__law_cell : PySem.W.nsIn K mainGlobals "_law_cell" = some (some (.ref f__law_cell)))
    (l__law_cell : K.lookup f__law_cell = some ⟨oc__law_cell, od__law_cell, .func (PySem.W.fnOf "_law_cell" "_law_cell" (defArgs s__law_cell) (defBody s__law_cell) (defScope s__law_cell) .none kV__law_cell dc__law_cell pm__law_cell an__law_cell cd__law_cell ct__law_cell), sl__law_cell⟩)
    (c__law_cell : PySem.W.codeIn K cd__law_cell "_law_cell" = true)
    (k__law_cell : PySem.W.keepIn K (.ref f__law_cell) = true)
    (a__law_box : PySem.W.nsIn K mainGlobals "_law_box" = some (some (.ref f__law_box)))
    (l__law_box : K.lookup f__law_box = some ⟨oc__law_box, od__law_box, .func (PySem.W.fnOf "_law_box" "_law_box" (defArgs s__law_box) (defBody s__law_box) (defScope s__law_box) .none kV__law_box dc__law_box pm__law_box an__law_box cd__law_box ct__law_box), sl__law_box⟩)
    (c__law_box : PySem.W.codeIn K cd__law_box "_law_box" = true)
    (k__law_box : PySem.W.keepIn K (.ref f__law_box) = true)
    (a__law_take : PySem.W.nsIn K mainGlobals "_law_take" = some (some (.ref f__law_take)))
    (l__law_take : K.lookup f__law_take = some ⟨oc__law_take, od__law_take, .func (PySem.W.fnOf "_law_take" "_law_take" (defArgs s__law_take) (defBody s__law_take) (defScope s__law_take) .none kV__law_take dc__law_take pm__law_take an__law_take cd__law_take ct__law_take), sl__law_take⟩)
    (c__law_take : PySem.W.codeIn K cd__law_take "_law_take" = true)
    (k__law_take : PySem.W.keepIn K (.ref f__law_take) = true)
    (a__law_number : PySem.W.nsIn K mainGlobals "_law_number" = some (some (.ref f__law_number)))
    (l__law_number : K.lookup f__law_number = some ⟨oc__law_number, od__law_number, .func (PySem.W.fnOf "_law_number" "_law_number" (defArgs s__law_number) (defBody s__law_number) (defScope s__law_number) .none kV__law_number dc__law_number pm__law_number an__law_number cd__law_number ct__law_number), sl__law_number⟩)
    (c__law_number : PySem.W.codeIn K cd__law_number "_law_number" = true)
    (k__law_number : PySem.W.keepIn K (.ref f__law_number) = true)
    (a__law_told : PySem.W.nsIn K mainGlobals "_law_told" = some (some (.ref f__law_told)))
    (l__law_told : K.lookup f__law_told = some ⟨oc__law_told, od__law_told, .func (PySem.W.fnOf "_law_told" "_law_told" (defArgs s__law_told) (defBody s__law_told) (defScope s__law_told) .none kV__law_told dc__law_told pm__law_told an__law_told cd__law_told ct__law_told), sl__law_told⟩)
    (c__law_told : PySem.W.codeIn K cd__law_told "_law_told" = true)
    (k__law_told : PySem.W.keepIn K (.ref f__law_told) = true)
    (a__law_edges : PySem.W.nsIn K mainGlobals "_law_edges" = some (some (.ref f__law_edges)))
    (l__law_edges : K.lookup f__law_edges = some ⟨oc__law_edges, od__law_edges, .func (PySem.W.fnOf "_law_edges" "_law_edges" (defArgs s__law_edges) (defBody s__law_edges) (defScope s__law_edges) .none kV__law_edges dc__law_edges pm__law_edges an__law_edges cd__law_edges ct__law_edges), sl__law_edges⟩)
    (c__law_edges : PySem.W.codeIn K cd__law_edges "_law_edges" = true)
    (k__law_edges : PySem.W.keepIn K (.ref f__law_edges) = true)
    (a__law_cross : PySem.W.nsIn K mainGlobals "_law_cross" = some (some (.ref f__law_cross)))
    (l__law_cross : K.lookup f__law_cross = some ⟨oc__law_cross, od__law_cross, .func (PySem.W.fnOf "_law_cross" "_law_cross" (defArgs s__law_cross) (defBody s__law_cross) (defScope s__law_cross) .none kV__law_cross dc__law_cross pm__law_cross an__law_cross cd__law_cross ct__law_cross), sl__law_cross⟩)
    (c__law_cross : PySem.W.codeIn K cd__law_cross "_law_cross" = true)
    (k__law_cross : PySem.W.keepIn K (.ref f__law_cross) = true)
    (a__law_along : PySem.W.nsIn K mainGlobals "_law_along" = some (some (.ref f__law_along)))
    (l__law_along : K.lookup f__law_along = some ⟨oc__law_along, od__law_along, .func (PySem.W.fnOf "_law_along" "_law_along" (defArgs s__law_along) (defBody s__law_along) (defScope s__law_along) .none kV__law_along dc__law_along pm__law_along an__law_along cd__law_along ct__law_along), sl__law_along⟩)
    (c__law_along : PySem.W.codeIn K cd__law_along "_law_along" = true)
    (k__law_along : PySem.W.keepIn K (.ref f__law_along) = true)
    (a__law_shared : PySem.W.nsIn K mainGlobals "_law_shared" = some (some (.ref f__law_shared)))
    (l__law_shared : K.lookup f__law_shared = some ⟨oc__law_shared, od__law_shared, .func (PySem.W.fnOf "_law_shared" "_law_shared" (defArgs s__law_shared) (defBody s__law_shared) (defScope s__law_shared) .none kV__law_shared dc__law_shared pm__law_shared an__law_shared cd__law_shared ct__law_shared), sl__law_shared⟩)
    (c__law_shared : PySem.W.codeIn K cd__law_shared "_law_shared" = true)
    (k__law_shared : PySem.W.keepIn K (.ref f__law_shared) = true)
    (a__law_folded : PySem.W.nsIn K mainGlobals "_law_folded" = some (some (.ref f__law_folded)))
    (l__law_folded : K.lookup f__law_folded = some ⟨oc__law_folded, od__law_folded, .func (PySem.W.fnOf "_law_folded" "_law_folded" (defArgs s__law_folded) (defBody s__law_folded) (defScope s__law_folded) .none kV__law_folded dc__law_folded pm__law_folded an__law_folded cd__law_folded ct__law_folded), sl__law_folded⟩)
    (c__law_folded : PySem.W.codeIn K cd__law_folded "_law_folded" = true)
    (k__law_folded : PySem.W.keepIn K (.ref f__law_folded) = true)
    (a__law_due : PySem.W.nsIn K mainGlobals "_law_due" = some (some (.ref f__law_due)))
    (l__law_due : K.lookup f__law_due = some ⟨oc__law_due, od__law_due, .func (PySem.W.fnOf "_law_due" "_law_due" (defArgs s__law_due) (defBody s__law_due) (defScope s__law_due) .none kV__law_due dc__law_due pm__law_due an__law_due cd__law_due ct__law_due), sl__law_due⟩)
    (c__law_due : PySem.W.codeIn K cd__law_due "_law_due" = true)
    (k__law_due : PySem.W.keepIn K (.ref f__law_due) = true)
    (a__law_round : PySem.W.nsIn K mainGlobals "_law_round" = some (some (.ref f__law_round)))
    (l__law_round : K.lookup f__law_round = some ⟨oc__law_round, od__law_round, .func (PySem.W.fnOf "_law_round" "_law_round" (defArgs s__law_round) (defBody s__law_round) (defScope s__law_round) .none kV__law_round dc__law_round pm__law_round an__law_round cd__law_round ct__law_round), sl__law_round⟩)
    (c__law_round : PySem.W.codeIn K cd__law_round "_law_round" = true)
    (k__law_round : PySem.W.keepIn K (.ref f__law_round) = true)
    (a__law_comb : PySem.W.nsIn K mainGlobals "_law_comb" = some (some (.ref f__law_comb)))
    (l__law_comb : K.lookup f__law_comb = some ⟨oc__law_comb, od__law_comb, .func (PySem.W.fnOf "_law_comb" "_law_comb" (defArgs s__law_comb) (defBody s__law_comb) (defScope s__law_comb) .none kV__law_comb dc__law_comb pm__law_comb an__law_comb cd__law_comb ct__law_comb), sl__law_comb⟩)
    (c__law_comb : PySem.W.codeIn K cd__law_comb "_law_comb" = true)
    (k__law_comb : PySem.W.keepIn K (.ref f__law_comb) = true)
    (a__law_scene : PySem.W.nsIn K mainGlobals "_law_scene" = some (some (.ref f__law_scene)))
    (l__law_scene : K.lookup f__law_scene = some ⟨oc__law_scene, od__law_scene, .func (PySem.W.fnOf "_law_scene" "_law_scene" (defArgs s__law_scene) (defBody s__law_scene) (defScope s__law_scene) .none kV__law_scene dc__law_scene pm__law_scene an__law_scene cd__law_scene ct__law_scene), sl__law_scene⟩)
    (c__law_scene : PySem.W.codeIn K cd__law_scene "_law_scene" = true)
    (k__law_scene : PySem.W.keepIn K (.ref f__law_scene) = true)
    (a_law : PySem.W.nsIn K mainGlobals "law" = some (some (.ref f_law)))
    (l_law : K.lookup f_law = some ⟨oc_law, od_law, .func (PySem.W.fnOf "law" "law" (defArgs s_law) (defBody s_law) (defScope s_law) .none kV_law dc_law pm_law an_law cd_law ct_law), sl_law⟩)
    (c_law : PySem.W.codeIn K cd_law "law" = true)
    (k_law : PySem.W.keepIn K (.ref f_law) = true)
    (z_abs : PySem.W.nsIn K mainGlobals "abs" = some none)
    (z_all : PySem.W.nsIn K mainGlobals "all" = some none)
    (z_any : PySem.W.nsIn K mainGlobals "any" = some none)
    (z_bool : PySem.W.nsIn K mainGlobals "bool" = some none)
    (z_enumerate : PySem.W.nsIn K mainGlobals "enumerate" = some none)
    (z_int : PySem.W.nsIn K mainGlobals "int" = some none)
    (z_isinstance : PySem.W.nsIn K mainGlobals "isinstance" = some none)
    (z_len : PySem.W.nsIn K mainGlobals "len" = some none)
    (z_list : PySem.W.nsIn K mainGlobals "list" = some none)
    (z_max : PySem.W.nsIn K mainGlobals "max" = some none)
    (z_min : PySem.W.nsIn K mainGlobals "min" = some none)
    (z_range : PySem.W.nsIn K mainGlobals "range" = some none)
    (z_repr : PySem.W.nsIn K mainGlobals "repr" = some none)
    (z_sorted : PySem.W.nsIn K mainGlobals "sorted" = some none)
    (z_tuple : PySem.W.nsIn K mainGlobals "tuple" = some none)
    (z_zip : PySem.W.nsIn K mainGlobals "zip" = some none)
    (g_MOST_PLACES : PySem.W.nsIn K mainGlobals "MOST_PLACES" = some (some (.int 100 t_MOST_PLACES)))
    (g_MOST_POLYGONS : PySem.W.nsIn K mainGlobals "MOST_POLYGONS" = some (some (.int 4 t_MOST_POLYGONS)))
    (m_FontError : PySem.W.nsIn K mainGlobals "FontError" = some (some (.ref C_FontError)))
    (m_NoParts : PySem.W.nsIn K mainGlobals "NoParts" = some (some (.ref C_NoParts)))
    (m_NoPlace : PySem.W.nsIn K mainGlobals "NoPlace" = some (some (.ref C_NoPlace)))
    (bg_FontError : PySem.W.specialIn K (.ref C_FontError) "__getattribute__" = some (some (.builtin "type.__getattribute__")))
    (br_FontError : PySem.W.readsIn K C_FontError (.type "type") = true)
    (bi_FontError : PySem.W.findCls K (.ref C_FontError) (.type "type") "__init__" = some (.val (.builtin "ValueError.__init__")))
    (xl_NoParts : K.lookup C_NoParts = some (excClassObj nm_NoParts q_NoParts C_NoParts N_NoParts bs_NoParts [.ref C_FontError, .type "ValueError", .type "Exception", .type "BaseException", .type "object"] true sn_NoParts sub_NoParts ab_NoParts col_NoParts dd_NoParts x0_NoParts x1_NoParts x2_NoParts x3_NoParts x5_NoParts "ValueError.__new__"))
    (xs_NoParts : PySem.W.findIn K (.ref C_NoParts) "__setattr__" = some (some (.builtin "object.__setattr__")))
    (xe_NoParts : PySem.W.subIn K (.ref C_NoParts) (.type "BaseException") = some true)
    (xt_NoParts : PySem.W.typeIn K (.ref C_NoParts) = some (.type "type"))
    (xk_NoParts : PySem.W.keepIn K (.ref C_NoParts) = true)
    (xl_NoPlace : K.lookup C_NoPlace = some (excClassObj nm_NoPlace q_NoPlace C_NoPlace N_NoPlace bs_NoPlace [.ref C_FontError, .type "ValueError", .type "Exception", .type "BaseException", .type "object"] true sn_NoPlace sub_NoPlace ab_NoPlace col_NoPlace dd_NoPlace x0_NoPlace x1_NoPlace x2_NoPlace x3_NoPlace x5_NoPlace "ValueError.__new__"))
    (xs_NoPlace : PySem.W.findIn K (.ref C_NoPlace) "__setattr__" = some (some (.builtin "object.__setattr__")))
    (xe_NoPlace : PySem.W.subIn K (.ref C_NoPlace) (.type "BaseException") = some true)
    (xt_NoPlace : PySem.W.typeIn K (.ref C_NoPlace) = some (.type "type"))
    (xk_NoPlace : PySem.W.keepIn K (.ref C_NoPlace) = true)
    (yn : PySem.W.specialIn K (.builtin "object.__class__") "__get__" = some (some (.builtin "getset_descriptor.__get__")))
    (yt : PySem.W.takesIn K (.builtin "object.__class__") = some true)
    (ii_NoParts : PySem.W.findIn K (.ref C_NoParts) "__init__" = some (some (.ref I_NoParts)))
    (it_NoParts : PySem.W.typeIn K (.ref I_NoParts) = some (.type "function"))
    (il_NoParts : K.lookup I_NoParts = some ⟨ioc_NoParts, iod_NoParts, .func (PySem.W.fnOf "__init__" "NoParts.__init__" (defArgs (inClass (topS 3) 0)) (defBody (inClass (topS 3) 0)) (defScope (inClass (topS 3) 0)) .none ikV_NoParts idc_NoParts ipm_NoParts ian_NoParts icd_NoParts ict_NoParts), isl_NoParts⟩)
    (ic_NoParts : PySem.W.codeIn K icd_NoParts "NoParts.__init__" = true)
    (ik_NoParts : PySem.W.keepIn K (.ref I_NoParts) = true)
    (if_NoParts_found : PySem.W.findIn K (.ref C_NoParts) "found" = some none)
    (ii_NoPlace : PySem.W.findIn K (.ref C_NoPlace) "__init__" = some (some (.ref I_NoPlace)))
    (it_NoPlace : PySem.W.typeIn K (.ref I_NoPlace) = some (.type "function"))
    (il_NoPlace : K.lookup I_NoPlace = some ⟨ioc_NoPlace, iod_NoPlace, .func (PySem.W.fnOf "__init__" "NoPlace.__init__" (defArgs (inClass (topS 2) 0)) (defBody (inClass (topS 2) 0)) (defScope (inClass (topS 2) 0)) .none ikV_NoPlace idc_NoPlace ipm_NoPlace ian_NoPlace icd_NoPlace ict_NoPlace), isl_NoPlace⟩)
    (ic_NoPlace : PySem.W.codeIn K icd_NoPlace "NoPlace.__init__" = true)
    (ik_NoPlace : PySem.W.keepIn K (.ref I_NoPlace) = true)
    (if_NoPlace_found : PySem.W.findIn K (.ref C_NoPlace) "found" = some none) :
    ∃ fd : FuncData, (∀ (s : Shared) (u : Value), BindsTo s fd ⟨[u], []⟩ [("_law_script", u)]) ∧ ∀ base : Heap, K.In base → base.Ns mainGlobals mg → (∃ o, base.get? sysModules = some o) → FnG l.prog w K mg base 6 fa fd ["_law_script"] sp_law := by
  have e := hfa.symm.trans (glb_of X G a_law)
  cases e
  have D_is_plain := defAt_of X G a_is_plain l_is_plain c_is_plain k_is_plain
  have D_common_part := defAt_of X G a_common_part l_common_part c_common_part k_common_part
  have D_is_part := defAt_of X G a_is_part l_is_part c_is_part k_is_part
  have D_is_number := defAt_of X G a_is_number l_is_number c_is_number k_is_number
  have D_is_list := defAt_of X G a_is_list l_is_list c_is_list k_is_list
  have D_need_parts := defAt_of X G a_need_parts l_need_parts c_need_parts k_need_parts
  have D_base_of := defAt_of X G a_base_of l_base_of c_base_of k_base_of
  have D_scale_of := defAt_of X G a_scale_of l_scale_of c_scale_of k_scale_of
  have D_whole_of := defAt_of X G a_whole_of l_whole_of c_whole_of k_whole_of
  have D_in_wholes := defAt_of X G a_in_wholes l_in_wholes c_in_wholes k_in_wholes
  have D_sign_of := defAt_of X G a_sign_of l_sign_of c_sign_of k_sign_of
  have D_side_of := defAt_of X G a_side_of l_side_of c_side_of k_side_of
  have D_is_between := defAt_of X G a_is_between l_is_between c_is_between k_is_between
  have D_do_touch := defAt_of X G a_do_touch l_do_touch c_do_touch k_do_touch
  have D_do_fold := defAt_of X G a_do_fold l_do_fold c_do_fold k_do_fold
  have D_edges_of := defAt_of X G a_edges_of l_edges_of c_edges_of k_edges_of
  have D_is_too_near := defAt_of X G a_is_too_near l_is_too_near c_is_too_near k_is_too_near
  have D_first_crossing := defAt_of X G a_first_crossing l_first_crossing c_first_crossing k_first_crossing
  have D__law_cell := defAt_of X G a__law_cell l__law_cell c__law_cell k__law_cell
  have D__law_box := defAt_of X G a__law_box l__law_box c__law_box k__law_box
  have D__law_take := defAt_of X G a__law_take l__law_take c__law_take k__law_take
  have D__law_number := defAt_of X G a__law_number l__law_number c__law_number k__law_number
  have D__law_told := defAt_of X G a__law_told l__law_told c__law_told k__law_told
  have D__law_edges := defAt_of X G a__law_edges l__law_edges c__law_edges k__law_edges
  have D__law_cross := defAt_of X G a__law_cross l__law_cross c__law_cross k__law_cross
  have D__law_along := defAt_of X G a__law_along l__law_along c__law_along k__law_along
  have D__law_shared := defAt_of X G a__law_shared l__law_shared c__law_shared k__law_shared
  have D__law_folded := defAt_of X G a__law_folded l__law_folded c__law_folded k__law_folded
  have D__law_due := defAt_of X G a__law_due l__law_due c__law_due k__law_due
  have D__law_round := defAt_of X G a__law_round l__law_round c__law_round k__law_round
  have D__law_comb := defAt_of X G a__law_comb l__law_comb c__law_comb k__law_comb
  have D__law_scene := defAt_of X G a__law_scene l__law_scene c__law_scene k__law_scene
  have D_law := defAt_of X G a_law l_law c_law k_law
  have M_FontError := glb_of X G m_FontError
  have M_NoParts := glb_of X G m_NoParts
  have M_NoPlace := glb_of X G m_NoPlace
  have B_FontError := baseC_of X G m_FontError bg_FontError br_FontError bi_FontError
  have X_NoParts := oexC_of xl_NoParts rfl xs_NoParts xe_NoParts xt_NoParts xk_NoParts
  have X_NoPlace := oexC_of xl_NoPlace rfl xs_NoPlace xe_NoPlace xt_NoPlace xk_NoPlace
  have T : Tz K mg := { kit := kitT_of (fun p hp => (nomatch hp)), z_abs := bltn_of X G z_abs, z_all := bltn_of X G z_all, z_any := bltn_of X G z_any, z_bool := bltn_of X G z_bool, z_enumerate := bltn_of X G z_enumerate, z_int := bltn_of X G z_int, z_isinstance := bltn_of X G z_isinstance, z_len := bltn_of X G z_len, z_list := bltn_of X G z_list, z_max := bltn_of X G z_max, z_min := bltn_of X G z_min, z_range := bltn_of X G z_range, z_repr := bltn_of X G z_repr, z_sorted := bltn_of X G z_sorted, z_tuple := bltn_of X G z_tuple, z_zip := bltn_of X G z_zip, g_MOST_PLACES := ⟨_, glb_of X G g_MOST_PLACES⟩, g_MOST_POLYGONS := ⟨_, glb_of X G g_MOST_POLYGONS⟩ }
  refine ⟨PySem.W.fnOf "law" "law" (defArgs s_law) (defBody s_law) (defScope s_law) .none kV_law dc_law pm_law an_law cd_law ct_law, fun s u => .of_eq rfl, fun base Kb Gb sm => ?_⟩
  have F_NoParts := fun_mk (st := inClass (topS 3) 0) il_NoParts ic_NoParts ik_NoParts
  have E_NoParts : ExOk l.prog w K mg base "NoParts" ["found"] := ⟨_, _, _, _, _, ⟨M_NoParts, X_NoParts, ii_NoParts, it_NoParts, (ex1_ok F_NoParts (fun _ _ _ _ _ _ => ⟨_, ps_expr (pe_finit B_FontError (pa_cons (pv 0) (pa_cons pe_str pa_nil)))⟩) rfl ⟨rfl, rfl, rfl, by decide +kernel, rfl, by decide +kernel, by decide +kernel⟩ rfl rfl (by decide) (by decide)), F_NoParts.binds (fun _ _ _ _ _ _ us hl => match us, hl with | [_, _], _ => rfl)⟩, exGives1, List.forall_mem_cons.mpr ⟨if_NoParts_found, fun f hf => (nomatch hf)⟩⟩
  have F_NoPlace := fun_mk (st := inClass (topS 2) 0) il_NoPlace ic_NoPlace ik_NoPlace
  have E_NoPlace : ExOk l.prog w K mg base "NoPlace" ["found"] := ⟨_, _, _, _, _, ⟨M_NoPlace, X_NoPlace, ii_NoPlace, it_NoPlace, (ex1_ok F_NoPlace (fun _ _ _ _ _ _ => ⟨_, ps_expr (pe_finit B_FontError (pa_cons (pv 0) (pa_cons pe_str pa_nil)))⟩) rfl ⟨rfl, rfl, rfl, by decide +kernel, rfl, by decide +kernel, by decide +kernel⟩ rfl rfl (by decide) (by decide)), F_NoPlace.binds (fun _ _ _ _ _ _ us hl => match us, hl with | [_, _], _ => rfl)⟩, exGives1, List.forall_mem_cons.mpr ⟨if_NoPlace_found, fun f hf => (nomatch hf)⟩⟩
  have O_is_plain := ok_is_plain (P := l.prog) (w := w) (base := base) T D_is_plain sm 
  have O_common_part := ok_common_part (P := l.prog) (w := w) (base := base) T D_common_part sm 
  have O_is_part := ok_is_part (P := l.prog) (w := w) (base := base) T D_is_part sm O_common_part O_is_plain
  have O_is_number := ok_is_number (P := l.prog) (w := w) (base := base) T D_is_number sm O_is_part O_is_plain
  have O_is_list := ok_is_list (P := l.prog) (w := w) (base := base) T D_is_list sm 
  have O_need_parts := ok_need_parts (P := l.prog) (w := w) (base := base) T D_need_parts sm E_NoParts E_NoPlace O_is_list O_is_number
  have O_base_of := ok_base_of (P := l.prog) (w := w) (base := base) T D_base_of sm 
  have O_scale_of := ok_scale_of (P := l.prog) (w := w) (base := base) T D_scale_of sm O_base_of O_common_part
  have O_whole_of := ok_whole_of (P := l.prog) (w := w) (base := base) T D_whole_of sm 
  have O_in_wholes := ok_in_wholes (P := l.prog) (w := w) (base := base) T D_in_wholes sm O_scale_of O_whole_of
  have O_sign_of := ok_sign_of (P := l.prog) (w := w) (base := base) T D_sign_of sm 
  have O_side_of := ok_side_of (P := l.prog) (w := w) (base := base) T D_side_of sm O_sign_of
  have O_is_between := ok_is_between (P := l.prog) (w := w) (base := base) T D_is_between sm 
  have O_do_touch := ok_do_touch (P := l.prog) (w := w) (base := base) T D_do_touch sm O_is_between O_side_of
  have O_do_fold := ok_do_fold (P := l.prog) (w := w) (base := base) T D_do_fold sm O_is_between O_side_of
  have O_edges_of := ok_edges_of (P := l.prog) (w := w) (base := base) T D_edges_of sm 
  have O_is_too_near := ok_is_too_near (P := l.prog) (w := w) (base := base) T D_is_too_near sm O_do_fold O_do_touch
  have O_first_crossing := ok_first_crossing (P := l.prog) (w := w) (base := base) T D_first_crossing sm O_edges_of O_in_wholes O_is_too_near O_need_parts
  have C_first_crossing_0_parts := okc_first_crossing_0_parts (P := l.prog) (w := w) (base := base)  T D_first_crossing sm O_edges_of O_in_wholes O_is_too_near O_need_parts
  have O__law_cell := ok__law_cell (P := l.prog) (w := w) (base := base) T D__law_cell sm 
  have O__law_box := ok__law_box (P := l.prog) (w := w) (base := base) T D__law_box sm 
  have O__law_take := ok__law_take (P := l.prog) (w := w) (base := base) T D__law_take sm 
  have O__law_number := ok__law_number (P := l.prog) (w := w) (base := base) T D__law_number sm 
  have O__law_told := ok__law_told (P := l.prog) (w := w) (base := base) T D__law_told sm O__law_number
  have O__law_edges := ok__law_edges (P := l.prog) (w := w) (base := base) T D__law_edges sm 
  have O__law_cross := ok__law_cross (P := l.prog) (w := w) (base := base) T D__law_cross sm 
  have O__law_along := ok__law_along (P := l.prog) (w := w) (base := base) T D__law_along sm 
  have O__law_shared := ok__law_shared (P := l.prog) (w := w) (base := base) T D__law_shared sm O__law_along O__law_cross
  have O__law_folded := ok__law_folded (P := l.prog) (w := w) (base := base) T D__law_folded sm O__law_cross
  have O__law_due := ok__law_due (P := l.prog) (w := w) (base := base) T D__law_due sm O__law_edges O__law_folded O__law_shared
  have O__law_round := ok__law_round (P := l.prog) (w := w) (base := base) T D__law_round sm O__law_take
  have O__law_comb := ok__law_comb (P := l.prog) (w := w) (base := base) T D__law_comb sm O__law_take
  have O__law_scene := ok__law_scene (P := l.prog) (w := w) (base := base) T D__law_scene sm O__law_round O__law_take
  exact fn_law T D_law sm C_first_crossing_0_parts O__law_box O__law_cell O__law_comb O__law_due O__law_scene O__law_take O__law_told O_first_crossing
end L_k25
open PySem PySem.W PyProof.Rows
set_option maxHeartbeats 0 in
theorem PySem.Challenge.cw_hintedpoints_k25_first_two_that_cross_holds : PySem.Challenge.rw_hintedpoints_k25_first_two_that_cross.Holds := by
  w_on; o_law; k_head; (case hw => w_witness2)
  k_fill
  refine DL.walkD (l := PySem.Challenge.rw_hintedpoints_k25_first_two_that_cross) (n := 63) (k := 6) (x := "_law_script") (sp := L_k25.sp_law) rfl (by decide) rfl ⟨rfl, by decide, by decide⟩ (by decide +kernel) (fun w h Y => PySem.W.kIn_of Y) ?F L_k25.law_true
  case F =>
    intro w mg fa h KX G hmg
    refine' L_k25.all_mk KX G hmg ?a_is_plain ?l_is_plain ?c_is_plain ?k_is_plain ?a_common_part ?l_common_part ?c_common_part ?k_common_part ?a_is_part ?l_is_part ?c_is_part ?k_is_part ?a_is_number ?l_is_number ?c_is_number ?k_is_number ?a_is_list ?l_is_list ?c_is_list ?k_is_list ?a_need_parts ?l_need_parts ?c_need_parts ?k_need_parts ?a_base_of ?l_base_of ?c_base_of ?k_base_of ?a_scale_of ?l_scale_of ?c_scale_of ?k_scale_of ?a_whole_of ?l_whole_of ?c_whole_of ?k_whole_of ?a_in_wholes ?l_in_wholes ?c_in_wholes ?k_in_wholes ?a_sign_of ?l_sign_of ?c_sign_of ?k_sign_of ?a_side_of ?l_side_of ?c_side_of ?k_side_of ?a_is_between ?l_is_between ?c_is_between ?k_is_between ?a_do_touch ?l_do_touch ?c_do_touch ?k_do_touch ?a_do_fold ?l_do_fold ?c_do_fold ?k_do_fold ?a_edges_of ?l_edges_of ?c_edges_of ?k_edges_of ?a_is_too_near ?l_is_too_near ?c_is_too_near ?k_is_too_near ?a_first_crossing ?l_first_crossing ?c_first_crossing ?k_first_crossing ?a__law_cell ?l__law_cell ?c__law_cell ?k__law_cell ?a__law_box ?l__law_box ?c__law_box ?k__law_box ?a__law_take ?l__law_take ?c__law_take ?k__law_take ?a__law_number ?l__law_number ?c__law_number ?k__law_number ?a__law_told ?l__law_told ?c__law_told ?k__law_told ?a__law_edges ?l__law_edges ?c__law_edges ?k__law_edges ?a__law_cross ?l__law_cross ?c__law_cross ?k__law_cross ?a__law_along ?l__law_along ?c__law_along ?k__law_along ?a__law_shared ?l__law_shared ?c__law_shared ?k__law_shared ?a__law_folded ?l__law_folded ?c__law_folded ?k__law_folded ?a__law_due ?l__law_due ?c__law_due ?k__law_due ?a__law_round ?l__law_round ?c__law_round ?k__law_round ?a__law_comb ?l__law_comb ?c__law_comb ?k__law_comb ?a__law_scene ?l__law_scene ?c__law_scene ?k__law_scene ?a_law ?l_law ?c_law ?k_law ?z_abs ?z_all ?z_any ?z_bool ?z_enumerate ?z_int ?z_isinstance ?z_len ?z_list ?z_max ?z_min ?z_range ?z_repr ?z_sorted ?z_tuple ?z_zip ?g_MOST_PLACES ?g_MOST_POLYGONS ?m_FontError ?m_NoParts ?m_NoPlace ?bg_FontError ?br_FontError ?bi_FontError ?xl_NoParts ?xs_NoParts ?xe_NoParts ?xt_NoParts ?xk_NoParts ?xl_NoPlace ?xs_NoPlace ?xe_NoPlace ?xt_NoPlace ?xk_NoPlace ?yn ?yt ?ii_NoParts ?it_NoParts ?il_NoParts ?ic_NoParts ?ik_NoParts ?if_NoParts_found ?ii_NoPlace ?it_NoPlace ?il_NoPlace ?ic_NoPlace ?ik_NoPlace ?if_NoPlace_found
    (case a_is_plain => k_is)
    (case l_is_plain => k_is)
    (case c_is_plain => k_is)
    (case k_is_plain => k_is)
    (case a_common_part => k_is)
    (case l_common_part => k_is)
    (case c_common_part => k_is)
    (case k_common_part => k_is)
    (case a_is_part => k_is)
    (case l_is_part => k_is)
    (case c_is_part => k_is)
    (case k_is_part => k_is)
    (case a_is_number => k_is)
    (case l_is_number => k_is)
    (case c_is_number => k_is)
    (case k_is_number => k_is)
    (case a_is_list => k_is)
    (case l_is_list => k_is)
    (case c_is_list => k_is)
    (case k_is_list => k_is)
    (case a_need_parts => k_is)
    (case l_need_parts => k_is)
    (case c_need_parts => k_is)
    (case k_need_parts => k_is)
    (case a_base_of => k_is)
    (case l_base_of => k_is)
    (case c_base_of => k_is)
    (case k_base_of => k_is)
    (case a_scale_of => k_is)
    (case l_scale_of => k_is)
    (case c_scale_of => k_is)
    (case k_scale_of => k_is)
    (case a_whole_of => k_is)
    (case l_whole_of => k_is)
    (case c_whole_of => k_is)
    (case k_whole_of => k_is)
    (case a_in_wholes => k_is)
    (case l_in_wholes => k_is)
    (case c_in_wholes => k_is)
    (case k_in_wholes => k_is)
    (case a_sign_of => k_is)
    (case l_sign_of => k_is)
    (case c_sign_of => k_is)
    (case k_sign_of => k_is)
    (case a_side_of => k_is)
    (case l_side_of => k_is)
    (case c_side_of => k_is)
    (case k_side_of => k_is)
    (case a_is_between => k_is)
    (case l_is_between => k_is)
    (case c_is_between => k_is)
    (case k_is_between => k_is)
    (case a_do_touch => k_is)
    (case l_do_touch => k_is)
    (case c_do_touch => k_is)
    (case k_do_touch => k_is)
    (case a_do_fold => k_is)
    (case l_do_fold => k_is)
    (case c_do_fold => k_is)
    (case k_do_fold => k_is)
    (case a_edges_of => k_is)
    (case l_edges_of => k_is)
    (case c_edges_of => k_is)
    (case k_edges_of => k_is)
    (case a_is_too_near => k_is)
    (case l_is_too_near => k_is)
    (case c_is_too_near => k_is)
    (case k_is_too_near => k_is)
    (case a_first_crossing => k_is)
    (case l_first_crossing => k_is)
    (case c_first_crossing => k_is)
    (case k_first_crossing => k_is)
    (case a__law_cell => k_is)
    (case l__law_cell => k_is)
    (case c__law_cell => k_is)
    (case k__law_cell => k_is)
    (case a__law_box => k_is)
    (case l__law_box => k_is)
    (case c__law_box => k_is)
    (case k__law_box => k_is)
    (case a__law_take => k_is)
    (case l__law_take => k_is)
    (case c__law_take => k_is)
    (case k__law_take => k_is)
    (case a__law_number => k_is)
    (case l__law_number => k_is)
    (case c__law_number => k_is)
    (case k__law_number => k_is)
    (case a__law_told => k_is)
    (case l__law_told => k_is)
    (case c__law_told => k_is)
    (case k__law_told => k_is)
    (case a__law_edges => k_is)
    (case l__law_edges => k_is)
    (case c__law_edges => k_is)
    (case k__law_edges => k_is)
    (case a__law_cross => k_is)
    (case l__law_cross => k_is)
    (case c__law_cross => k_is)
    (case k__law_cross => k_is)
    (case a__law_along => k_is)
    (case l__law_along => k_is)
    (case c__law_along => k_is)
    (case k__law_along => k_is)
    (case a__law_shared => k_is)
    (case l__law_shared => k_is)
    (case c__law_shared => k_is)
    (case k__law_shared => k_is)
    (case a__law_folded => k_is)
    (case l__law_folded => k_is)
    (case c__law_folded => k_is)
    (case k__law_folded => k_is)
    (case a__law_due => k_is)
    (case l__law_due => k_is)
    (case c__law_due => k_is)
    (case k__law_due => k_is)
    (case a__law_round => k_is)
    (case l__law_round => k_is)
    (case c__law_round => k_is)
    (case k__law_round => k_is)
    (case a__law_comb => k_is)
    (case l__law_comb => k_is)
    (case c__law_comb => k_is)
    (case k__law_comb => k_is)
    (case a__law_scene => k_is)
    (case l__law_scene => k_is)
    (case c__law_scene => k_is)
    (case k__law_scene => k_is)
    (case a_law => k_is)
    (case l_law => k_is)
    (case c_law => k_is)
    (case k_law => k_is)
    (case z_abs => k_is)
    (case z_all => k_is)
    (case z_any => k_is)
    (case z_bool => k_is)
    (case z_enumerate => k_is)
    (case z_int => k_is)
    (case z_isinstance => k_is)
    (case z_len => k_is)
    (case z_list => k_is)
    (case z_max => k_is)
    (case z_min => k_is)
    (case z_range => k_is)
    (case z_repr => k_is)
    (case z_sorted => k_is)
    (case z_tuple => k_is)
    (case z_zip => k_is)
    (case g_MOST_PLACES => k_is)
    (case g_MOST_POLYGONS => k_is)
    (case m_FontError => k_is)
    (case m_NoParts => k_is)
    (case m_NoPlace => k_is)
    (case bg_FontError => k_is)
    (case br_FontError => k_is)
    (case bi_FontError => k_is)
    (case xl_NoParts => k_is)
    (case xs_NoParts => k_is)
    (case xe_NoParts => k_is)
    (case xt_NoParts => k_is)
    (case xk_NoParts => k_is)
    (case xl_NoPlace => k_is)
    (case xs_NoPlace => k_is)
    (case xe_NoPlace => k_is)
    (case xt_NoPlace => k_is)
    (case xk_NoPlace => k_is)
    (case yn => k_is)
    (case yt => k_is)
    (case ii_NoParts => k_is)
    (case it_NoParts => k_is)
    (case il_NoParts => k_is)
    (case ic_NoParts => k_is)
    (case ik_NoParts => k_is)
    (case if_NoParts_found => k_is)
    (case ii_NoPlace => k_is)
    (case it_NoPlace => k_is)
    (case il_NoPlace => k_is)
    (case ic_NoPlace => k_is)
    (case ik_NoPlace => k_is)
    (case if_NoPlace_found => k_is)
