import PyProof.Rows.All
import Wide.All
import OpenK.AllK
import Wide.FinOn
import HandS.ForMost
import HandS.ForExc
import HandS.Flow
import HandS.IsInst
import HandS.Wide
import HandS.TryMany
import HandS.ExcInit
import HandS.RaiseMore
import HandS.ExcCtx
import HandS.SuiteRaise
import HandS.ExcInitHot
import HandS.Deep
import KE.KExcIs
import HandS.ExcIs
import HandS.Defaults
import HandS.MakeKw
import HandS.MakeKwOnly
import HandS.ExcField
import HandS.Small
import HandS.Style
import HandS.Conv
import HandS.CallLocal
import HandS.WrittenGet
import PyProof.ReprRoads
import HandS.HeadHook3
import PyProof.MaxThree
import HandS.Text
import HandS.StrMore
import HandS.FStr
import PyProof.StrBlock2
import KE.IntTextLaws
import PyProof.CollectIter
import PyProof.Walks
import HandS.Zip0
import HandS.SortInts
import HandS.OwnIter
import HandS.TupAny
import PySem.Challenge.RW_hintedpoints_k23_polygons_of_points
set_option Elab.async false
set_option linter.all false
set_option maxRecDepth 100000
set_option maxHeartbeats 4000000
set_option exponentiation.threshold 10000
/-! DL: a layer of plain data trees over the hand layer: D (data without addresses), kept parts and cells, readings over D. -/
namespace DL
open PySem PySem.Spec PyProof.Rows L2

/-! ### data -/
inductive Kd where
  | lst | tup | klst
  | dct (ks : List Key)
  | obj (c : Str) (ns : List Str)
  | exc (c : Str) (ns : List Str)
  | cau (c : Str) (a C : Addr) (dd : Option Addr)
  deriving DecidableEq
inductive D where
  | non | bl (b : Bool) | int (i : Int) | str (x : Str) | ty (n : String) | glb (x : Str) | cell (n : Nat)
  | node (k : Kd) (xs : List D)
abbrev D.lst (xs : List D) : D := .node .lst xs
abbrev D.tup (xs : List D) : D := .node .tup xs

inductive Cell where
  | live (k : Kd) (xs : List D)
  | dead
abbrev Kap := Nat → Option Cell
def kset (κ : Kap) (n : Nat) (c : Cell) : Kap := fun m => if m = n then some c else κ m
theorem kset_same {κ : Kap} {n : Nat} {c : Cell} : kset κ n c n = some c := if_pos rfl
theorem kset_ne {κ : Kap} {n m : Nat} {c : Cell} (h : m ≠ n) : kset κ n c m = κ m := if_neg h
theorem kset_kset {κ : Kap} {n : Nat} {c d : Cell} : kset (kset κ n c) n d = kset κ n d := by
  funext m; unfold kset; split <;> rfl
theorem kne {κ : Kap} {n m : Nat} {c : Cell} (h : κ n = some c) (h' : κ m = none) : n ≠ m := by
  intro e; rw [e, h'] at h; cases h

abbrev DEnv := List (Option D)
abbrev DQ := D → Kap → Prop
abbrev DX := DEnv → Str → List D → Kap → Prop
structure DEnds where
  nx : DEnv → Kap → Prop
  rt : DQ
  bk : DEnv → Kap → Prop := fun _ _ => False
  ct : DEnv → Kap → Prop := fun _ _ => False
/-- readings over data: an expression's, a test's, an argument list's, a statement's -/
abbrev DE := DEnv → Kap → DX → DQ → Prop
abbrev DT := DEnv → Kap → DX → (Bool → Kap → Prop) → Prop
abbrev DA := DEnv → Kap → DX → (List D → Kap → Prop) → Prop
abbrev DS := DEnv → Kap → DX → DEnds → Prop
/-- what a def is worth, over data -/
abbrev DSp := List D → Kap → (Str → List D → Kap → Prop) → DQ → Prop

/-! ### how data lies in the abstract heap -/
structure Ctx where
  K : PySem.W.Frag
  mg : Str → Option Value
abbrev Loc0 := Nat → Option Addr

/-- names and values, in turn -/
def xflat : List (Str × V) → List V
  | [] => []
  | p :: r => V.str p.1 :: p.2 :: xflat r
def HoldK (C : Ctx) (F : Hp) (k : Kd) (a : Addr) (vs : List V) : Prop := match k with
  | .lst => F a = some (.lst vs)
  | .klst => SqL C.K F a vs
  | .tup => SqT C.K F a vs
  | .dct ks => ∃ kvs, F a = some (.dK kvs) ∧ kvs.map (·.1) = ks ∧ kvs.map (·.2) = vs
  | .obj c ns => ∃ (ca dx : Addr) (fs : List (Str × V)), C.mg c = some (.ref ca) ∧ F a = some (.ins ca dx fs) ∧ fs.map (·.1) = ns ∧ fs.map (·.2) = vs
  | .exc c ns => ∃ ca : Addr, C.mg c = some (.ref ca) ∧ ((ns = [] ∧ vs = [] ∧ F a = some (exo a ca none)) ∨ ∃ (d : Addr) (fs : List (Str × V)), F a = some (exo a ca (some d)) ∧ F d = some (exd d fs) ∧ fs.map (·.1) = ns ∧ fs.map (·.2) = vs)
  | .cau c a1 C1 dd => a = a1 ∧ C.mg c = some (.ref C1) ∧ ((dd = none ∧ vs = []) ∨ ∃ (d : Addr) (fs : List (Str × V)), dd = some d ∧ F d = some (.xd fs) ∧ vs = xflat fs)

mutual
inductive Rep (C : Ctx) (F : Hp) (ρ : Loc0) : D → V → Prop
  | non : Rep C F ρ .non .non
  | bl (b : Bool) : Rep C F ρ (.bl b) (.bl b)
  | int (i : Int) : Rep C F ρ (.int i) (.int i)
  | str (x : Str) : Rep C F ρ (.str x) (.str x)
  | ty (n : String) : Rep C F ρ (.ty n) (.ty n)
  | glb {x : Str} {a : Addr} (h : C.mg x = some (.ref a)) : Rep C F ρ (.glb x) (.ref a)
  | cell {n : Nat} {a : Addr} (h : ρ n = some a) : Rep C F ρ (.cell n) (.ref a)
  | node {k : Kd} {xs : List D} {a : Addr} {vs : List V} (h : HoldK C F k a vs) (r : RepL C F ρ xs vs) : Rep C F ρ (.node k xs) (.ref a)
inductive RepL (C : Ctx) (F : Hp) (ρ : Loc0) : List D → List V → Prop
  | nil : RepL C F ρ [] []
  | cons {d : D} {ds : List D} {v : V} {vs : List V} (h : Rep C F ρ d v) (t : RepL C F ρ ds vs) : RepL C F ρ (d :: ds) (v :: vs)
end

/-- the kept part and the cells' places only grow -/
structure Ext (F : Hp) (ρ : Loc0) (F' : Hp) (ρ' : Loc0) : Prop where
  f : ∀ a o, F a = some o → F' a = some o
  r : ∀ n a, ρ n = some a → ρ' n = some a
theorem Ext.refl (F : Hp) (ρ : Loc0) : Ext F ρ F ρ := ⟨fun _ _ h => h, fun _ _ h => h⟩
theorem Ext.trans {F F1 F2 : Hp} {ρ ρ1 ρ2 : Loc0} (a : Ext F ρ F1 ρ1) (b : Ext F1 ρ1 F2 ρ2) : Ext F ρ F2 ρ2 := ⟨fun x o h => b.f x o (a.f x o h), fun n x h => b.r n x (a.r n x h)⟩

section
variable {C : Ctx} {F F' : Hp} {ρ ρ' : Loc0}
theorem rd_ext (h : ∀ a o, F a = some o → F' a = some o) {a : Addr} {u : HO} (r : Rd F a u) : Rd F' a u := by
  rcases r with r | ⟨o, r⟩
  · exact .inl (h _ _ r)
  · exact .inr ⟨o, h _ _ r⟩
theorem sql_ext (h : ∀ a o, F a = some o → F' a = some o) {K : PySem.W.Frag} {a : Addr} {xs : List V} (r : SqL K F a xs) : SqL K F' a xs := by
  rcases r with r | r
  · exact .inl (rd_ext h r)
  · exact .inr r
theorem sqt_ext (h : ∀ a o, F a = some o → F' a = some o) {K : PySem.W.Frag} {a : Addr} {xs : List V} (r : SqT K F a xs) : SqT K F' a xs := by
  rcases r with r | r
  · exact .inl (rd_ext h r)
  · exact .inr r
theorem HoldK.ext (e : ∀ a o, F a = some o → F' a = some o) {k : Kd} {a : Addr} {vs : List V} (h : HoldK C F k a vs) : HoldK C F' k a vs := by
  cases k with
  | lst => exact e _ _ h
  | klst => exact sql_ext e h
  | tup => exact sqt_ext e h
  | dct ks => obtain ⟨kvs, h1, h2⟩ := h; exact ⟨kvs, e _ _ h1, h2⟩
  | obj c ns => obtain ⟨ca, dx, fs, h1, h2, h3⟩ := h; exact ⟨ca, dx, fs, h1, e _ _ h2, h3⟩
  | exc c ns =>
    obtain ⟨ca, h1, h2⟩ := h
    refine ⟨ca, h1, ?_⟩
    rcases h2 with ⟨h2, h3, h4⟩ | ⟨d, fs, h2, h3, h4⟩
    · exact .inl ⟨h2, h3, e _ _ h4⟩
    · exact .inr ⟨d, fs, e _ _ h2, e _ _ h3, h4⟩
  | cau c a1 C1 dd =>
    obtain ⟨h1, h2, h3⟩ := h
    refine ⟨h1, h2, ?_⟩
    rcases h3 with h3 | ⟨d, fs, h3, h4, h5⟩
    · exact .inl h3
    · exact .inr ⟨d, fs, h3, e _ _ h4, h5⟩
mutual
theorem Rep.ext (e : Ext F ρ F' ρ') : ∀ {d : D} {v : V}, Rep C F ρ d v → Rep C F' ρ' d v
  | _, _, .non => .non
  | _, _, .bl b => .bl b
  | _, _, .int i => .int i
  | _, _, .str x => .str x
  | _, _, .ty n => .ty n
  | _, _, .glb h => .glb h
  | _, _, .cell h => .cell (e.r _ _ h)
  | _, _, .node h r => .node (h.ext e.f) (RepL.ext e r)
theorem RepL.ext (e : Ext F ρ F' ρ') : ∀ {d : List D} {v : List V}, RepL C F ρ d v → RepL C F' ρ' d v
  | _, _, .nil => .nil
  | _, _, .cons h t => .cons (Rep.ext e h) (RepL.ext e t)
end
theorem RepL.length : ∀ {ds : List D} {vs : List V}, RepL C F ρ ds vs → ds.length = vs.length
  | _, _, .nil => rfl
  | _, _, .cons _ t => congrArg (· + 1) (RepL.length t)
theorem RepL.get : ∀ {ds : List D} {vs : List V} {i : Nat} {d : D}, RepL C F ρ ds vs → ds[i]? = some d → ∃ v, vs[i]? = some v ∧ Rep C F ρ d v
  | _, _, _, _, .nil, e => by simp at e
  | _, _, 0, _, .cons h _, e => by simp at e; subst e; exact ⟨_, rfl, h⟩
  | _, _, i + 1, d, .cons _ t, e => by
    obtain ⟨v, h1, h2⟩ := RepL.get (i := i) (d := d) t (by simpa using e)
    exact ⟨v, by simpa using h1, h2⟩
theorem RepL.getV : ∀ {ds : List D} {vs : List V} {i : Nat} {v : V}, RepL C F ρ ds vs → vs[i]? = some v → ∃ d, ds[i]? = some d ∧ Rep C F ρ d v
  | _, _, _, _, .nil, e => by simp at e
  | _, _, 0, _, .cons h _, e => by simp at e; subst e; exact ⟨_, rfl, h⟩
  | _, _, i + 1, v, .cons _ t, e => by
    obtain ⟨d, h1, h2⟩ := RepL.getV (i := i) (v := v) t (by simpa using e)
    exact ⟨d, by simpa using h1, h2⟩
theorem RepL.append : ∀ {xs ys : List D} {us ws : List V}, RepL C F ρ xs us → RepL C F ρ ys ws → RepL C F ρ (xs ++ ys) (us ++ ws)
  | _, _, _, _, .nil, s => s
  | _, _, _, _, .cons h t, s => .cons h (RepL.append t s)
theorem RepL.set {d : D} {v : V} (r : Rep C F ρ d v) : ∀ {xs : List D} {vs : List V} (i : Nat), RepL C F ρ xs vs → RepL C F ρ (xs.set i d) (vs.set i v)
  | _, _, _, .nil => .nil
  | _, _, 0, .cons _ t => .cons r t
  | _, _, i + 1, .cons q t => .cons q (RepL.set r i t)
theorem RepL.take : ∀ {xs : List D} {vs : List V} (n : Nat), RepL C F ρ xs vs → RepL C F ρ (xs.take n) (vs.take n)
  | _, _, 0, _ => .nil
  | _, _, _ + 1, .nil => .nil
  | _, _, n + 1, .cons h t => .cons h (RepL.take n t)
theorem RepL.drop : ∀ {xs : List D} {vs : List V} (n : Nat), RepL C F ρ xs vs → RepL C F ρ (xs.drop n) (vs.drop n)
  | _, _, 0, r => r
  | _, _, _ + 1, .nil => .nil
  | _, _, n + 1, .cons _ t => RepL.drop n t
theorem RepL.ints : ∀ {ns : List Int} {vs : List V}, RepL C F ρ (ns.map D.int) vs → vs = ns.map V.int
  | [], _, .nil => rfl
  | n :: ns, _, .cons h t => by cases h; rw [RepL.ints (ns := ns) t]; rfl
theorem RepL.bls : ∀ {ns : List Bool} {vs : List V}, RepL C F ρ (ns.map D.bl) vs → vs = ns.map V.bl
  | [], _, .nil => rfl
  | n :: ns, _, .cons h t => by cases h; rw [RepL.bls (ns := ns) t]; rfl
theorem RepL.strs : ∀ {ns : List Str} {vs : List V}, RepL C F ρ (ns.map D.str) vs → vs = ns.map V.str
  | [], _, .nil => rfl
  | n :: ns, _, .cons h t => by cases h; rw [RepL.strs (ns := ns) t]; rfl
theorem RepL.ofInts : ∀ {ns : List Int}, RepL C F ρ (ns.map D.int) (ns.map V.int)
  | [] => .nil
  | n :: ns => .cons (.int n) (RepL.ofInts (ns := ns))
end

/-- how a cell's content lies -/
def HoldM (C : Ctx) (H : Hp) (k : Kd) (a : Addr) (vs : List V) : Prop := match k with
  | .lst => H a = some (.lst vs)
  | .dct ks => ∃ kvs, H a = some (.dK kvs) ∧ kvs.map (·.1) = ks ∧ kvs.map (·.2) = vs
  | .obj c ns => ∃ (ca dx : Addr) (fs : List (Str × V)), C.mg c = some (.ref ca) ∧ H a = some (.ins ca dx fs) ∧ fs.map (·.1) = ns ∧ fs.map (·.2) = vs
  | _ => False
/-- the state: the kept part F, the cells' places ρ, the cells κ, the abstract heap H -/
structure StR (C : Ctx) (F : Hp) (ρ : Loc0) (κ : Kap) (H : Hp) : Prop where
  sub : ∀ a o, F a = some o → H a = some o
  live : ∀ n k xs, κ n = some (.live k xs) → ∃ a vs, ρ n = some a ∧ F a = none ∧ HoldM C H k a vs ∧ RepL C F ρ xs vs
  inj : ∀ n m a k xs k' xs', κ n = some (.live k xs) → κ m = some (.live k' xs') → ρ n = some a → ρ m = some a → n = m
  free : ∀ n, κ n = none → ρ n = none
  fin : ∃ N, ∀ n, N ≤ n → κ n = none

theorem HoldM.is {C : Ctx} {H : Hp} {k : Kd} {a : Addr} {vs : List V} (h : HoldM C H k a vs) : ∃ o, H a = some o := by
  cases k with
  | lst => exact ⟨_, h⟩
  | dct ks => obtain ⟨kvs, h1, _⟩ := h; exact ⟨_, h1⟩
  | obj c ns => obtain ⟨_, _, _, _, h1, _⟩ := h; exact ⟨_, h1⟩
  | _ => exact h.elim
theorem HoldM.same {C : Ctx} {H H' : Hp} {k : Kd} {a : Addr} {vs : List V} (h : HoldM C H k a vs) (e : H' a = H a) : HoldM C H' k a vs := by
  cases k with
  | lst => exact e.trans h
  | dct ks => obtain ⟨kvs, h1, h2⟩ := h; exact ⟨kvs, e.trans h1, h2⟩
  | obj c ns => obtain ⟨ca, dx, fs, h0, h1, h2⟩ := h; exact ⟨ca, dx, fs, h0, e.trans h1, h2⟩
  | _ => exact h.elim

section
variable {C : Ctx} {F : Hp} {ρ : Loc0} {κ : Kap} {H : Hp}
/-- a new object, kept -/
theorem StR.laid (S : StR C F ρ κ H) {p : Addr} {o : HO} (h : H p = none) : Ext F ρ (upd F p o) ρ ∧ StR C (upd F p o) ρ κ (upd H p o) := by
  have fp : F p = none := by
    cases e : F p with
    | none => rfl
    | some u => rw [S.sub p u e] at h; cases h
  have ex : Ext F ρ (upd F p o) ρ := ⟨fun a u e => by rw [upd_ne (ne_of_none e fp)]; exact e, fun _ _ e => e⟩
  refine ⟨ex, ⟨fun a u e => ?_, fun n k xs e => ?_, S.inj, S.free, S.fin⟩⟩
  · by_cases ha : a = p
    · subst ha; rw [upd_same] at e; rw [upd_same]; exact e
    · rw [upd_ne ha] at e; rw [upd_ne ha]; exact S.sub a u e
  · obtain ⟨a, vs, h1, h2, h3, h4⟩ := S.live n k xs e
    obtain ⟨u, hu⟩ := h3.is
    have ne : a ≠ p := ne_of_none hu h
    exact ⟨a, vs, h1, by rw [upd_ne ne]; exact h2, h3.same (upd_ne ne), h4.ext ex⟩
/-- a new object, a cell -/
theorem StR.cell (S : StR C F ρ κ H) {p : Addr} {o : HO} {k : Kd} {vs : List V} {xs : List D} (h : H p = none) (hm : ∀ H', H' p = some o → HoldM C H' k p vs) (r : RepL C F ρ xs vs) {n : Nat} (hn : κ n = none) :
    ∃ ρ', Ext F ρ F ρ' ∧ ρ' n = some p ∧ StR C F ρ' (kset κ n (.live k xs)) (upd H p o) := by
  have ex : Ext F ρ F (fun m => if m = n then some p else ρ m) := ⟨fun _ _ e => e, fun m a e => by
    have : m ≠ n := fun z => by rw [z, S.free n hn] at e; cases e
    show (if m = n then some p else ρ m) = some a
    rw [if_neg this]; exact e⟩
  have fp : F p = none := by
    cases e : F p with
    | none => rfl
    | some u => rw [S.sub p u e] at h; cases h
  refine ⟨_, ex, if_pos rfl, ⟨fun a u e => ?_, fun m k' xs' e => ?_, fun m m' a k1 x1 k2 x2 e e' r1 r2 => ?_, fun m e => ?_, ?_⟩⟩
  · rw [upd_ne (ne_of_none (S.sub a u e) h)]; exact S.sub a u e
  · by_cases hm' : m = n
    · subst hm'
      rw [kset_same] at e
      cases e
      exact ⟨p, vs, if_pos rfl, fp, hm _ upd_same, r.ext ex⟩
    · rw [kset_ne hm'] at e
      obtain ⟨a, ws, h1, h2, h3, h4⟩ := S.live m k' xs' e
      obtain ⟨u, hu⟩ := h3.is
      have ne : a ≠ p := ne_of_none hu h
      exact ⟨a, ws, by rw [if_neg hm']; exact h1, h2, h3.same (upd_ne ne), h4.ext ex⟩
  · have key : ∀ {m a k1 x1}, m ≠ n → kset κ n (.live k xs) m = some (.live k1 x1) → (if m = n then some p else ρ m) = some a → a ≠ p := by
      intro m a k1 x1 hm' e r1
      rw [kset_ne hm'] at e
      obtain ⟨b, ws, h1, h2, h3, h4⟩ := S.live m k1 x1 e
      rw [if_neg hm', h1] at r1
      cases r1
      obtain ⟨u, hu⟩ := h3.is
      exact ne_of_none hu h
    by_cases h1 : m = n
    · by_cases h2 : m' = n
      · exact h1.trans h2.symm
      · have := key h2 e' r2
        rw [if_pos h1] at r1
        cases r1
        exact absurd rfl this
    · by_cases h2 : m' = n
      · have := key h1 e r1
        rw [if_pos h2] at r2
        cases r2
        exact absurd rfl this
      · rw [kset_ne h1] at e
        rw [kset_ne h2] at e'
        rw [if_neg h1] at r1
        rw [if_neg h2] at r2
        exact S.inj _ _ _ _ _ _ _ e e' r1 r2
  · have hm' : m ≠ n := fun z => by rw [z, kset_same] at e; cases e
    rw [kset_ne hm'] at e
    show (if m = n then some p else ρ m) = none
    rw [if_neg hm']
    exact S.free m e
  · obtain ⟨N, hN⟩ := S.fin
    refine ⟨max N (n + 1), fun m hm' => ?_⟩
    rw [kset_ne (by omega)]
    exact hN m (by omega)
theorem StR.fresh (S : StR C F ρ κ H) : ∃ n, κ n = none := let ⟨N, h⟩ := S.fin; ⟨N, h N (Nat.le_refl _)⟩
/-- a cell is written -/
theorem StR.write (S : StR C F ρ κ H) {n : Nat} {a : Addr} {o : HO} {k k' : Kd} {xs xs' : List D} {vs' : List V} (hn : κ n = some (.live k xs)) (ha : ρ n = some a) (hm : ∀ H', H' a = some o → HoldM C H' k' a vs') (r : RepL C F ρ xs' vs') :
    StR C F ρ (kset κ n (.live k' xs')) (upd H a o) := by
  have fa : F a = none := by
    obtain ⟨b, vs, h1, h2, _⟩ := S.live n k xs hn
    rw [ha] at h1
    cases h1
    exact h2
  refine ⟨fun b u e => ?_, fun m k1 x1 e => ?_, fun m m' b k1 x1 k2 x2 e e' r1 r2 => ?_, fun m e => ?_, ?_⟩
  · rw [upd_ne (ne_of_none e fa)]; exact S.sub b u e
  · by_cases hm' : m = n
    · subst hm'
      rw [kset_same] at e
      cases e
      exact ⟨a, vs', ha, fa, hm _ upd_same, r⟩
    · rw [kset_ne hm'] at e
      obtain ⟨b, ws, h1, h2, h3, h4⟩ := S.live m k1 x1 e
      have ne : b ≠ a := fun z => hm' (S.inj m n a k1 x1 k xs e hn (z ▸ h1) ha)
      exact ⟨b, ws, h1, h2, h3.same (upd_ne ne), h4⟩
  · have key : ∀ {m k1 x1}, kset κ n (.live k' xs') m = some (.live k1 x1) → ∃ k2 x2, κ m = some (.live k2 x2) := by
      intro m k1 x1 e
      by_cases z : m = n
      · exact ⟨k, xs, z ▸ hn⟩
      · rw [kset_ne z] at e
        exact ⟨_, _, e⟩
    obtain ⟨_, _, q1⟩ := key e
    obtain ⟨_, _, q2⟩ := key e'
    exact S.inj _ _ _ _ _ _ _ q1 q2 r1 r2
  · have hm' : m ≠ n := fun z => by rw [z, kset_same] at e; cases e
    rw [kset_ne hm'] at e
    exact S.free m e
  · obtain ⟨N, hN⟩ := S.fin
    refine ⟨max N (n + 1), fun m hm' => ?_⟩
    rw [kset_ne (by omega)]
    exact hN m (by omega)
theorem HoldM.toK {k : Kd} {a : Addr} {vs : List V} (h : HoldM C H k a vs) : ∃ o, H a = some o ∧ ∀ F : Hp, F a = some o → HoldK C F k a vs := by
  cases k with
  | lst => exact ⟨_, h, fun F e => e⟩
  | dct ks => obtain ⟨kvs, h1, h2⟩ := h; exact ⟨_, h1, fun F e => ⟨kvs, e, h2⟩⟩
  | obj c ns => obtain ⟨ca, dx, fs, h0, h1, h2⟩ := h; exact ⟨_, h1, fun F e => ⟨ca, dx, fs, h0, e, h2⟩⟩
  | _ => exact h.elim
/-- a cell is kept from now on -/
theorem StR.freeze (S : StR C F ρ κ H) {n : Nat} {a : Addr} {k : Kd} {xs : List D} (hn : κ n = some (.live k xs)) (ha : ρ n = some a) :
    ∃ F', Ext F ρ F' ρ ∧ Rep C F' ρ (.node k xs) (.ref a) ∧ StR C F' ρ (kset κ n .dead) H := by
  obtain ⟨b, vs, h1, h2, h3, h4⟩ := S.live n k xs hn
  rw [ha] at h1
  cases h1
  obtain ⟨o, ho, hk⟩ := h3.toK
  have ex : Ext F ρ (upd F a o) ρ := ⟨fun b u e => by rw [upd_ne (ne_of_none e h2)]; exact e, fun _ _ e => e⟩
  refine ⟨upd F a o, ex, .node (hk _ upd_same) (h4.ext ex), ⟨fun b u e => ?_, fun m k1 x1 e => ?_, fun m m' b k1 x1 k2 x2 e e' r1 r2 => ?_, fun m e => ?_, ?_⟩⟩
  · by_cases hb : b = a
    · subst hb; rw [upd_same] at e; cases e; exact ho
    · rw [upd_ne hb] at e; exact S.sub b u e
  · have hm' : m ≠ n := fun z => by rw [z, kset_same] at e; cases e
    rw [kset_ne hm'] at e
    obtain ⟨b, ws, g1, g2, g3, g4⟩ := S.live m k1 x1 e
    have ne : b ≠ a := fun z => hm' (S.inj m n a k1 x1 k xs e hn (z ▸ g1) ha)
    exact ⟨b, ws, g1, by rw [upd_ne ne]; exact g2, g3, g4.ext ex⟩
  · have key : ∀ {m k1 x1}, kset κ n .dead m = some (.live k1 x1) → κ m = some (.live k1 x1) := by
      intro m k1 x1 e
      by_cases z : m = n
      · rw [z, kset_same] at e; cases e
      · rw [kset_ne z] at e; exact e
    exact S.inj _ _ _ _ _ _ _ (key e) (key e') r1 r2
  · have hm' : m ≠ n := fun z => by rw [z, kset_same] at e; cases e
    rw [kset_ne hm'] at e
    exact S.free m e
  · obtain ⟨N, hN⟩ := S.fin
    refine ⟨max N (n + 1), fun m hm' => ?_⟩
    rw [kset_ne (by omega)]
    exact hN m (by omega)
end

/-! ### slots -/
def RepS (C : Ctx) (F : Hp) (ρ : Loc0) (δ : DEnv) (σ : L2.St) : Prop := δ.length = σ.length ∧ ∀ (i : Nat) (d : D), δ[i]? = some (some d) → ∃ v : V, σ[i]? = some (some v) ∧ Rep C F ρ d v
section
variable {C : Ctx} {F F' : Hp} {ρ ρ' : Loc0} {δ : DEnv} {σ : L2.St}
theorem RepS.ext (e : Ext F ρ F' ρ') (h : RepS C F ρ δ σ) : RepS C F' ρ' δ σ := ⟨h.1, fun i d q => let ⟨v, a, b⟩ := h.2 i d q; ⟨v, a, b.ext e⟩⟩
theorem RepS.set (h : RepS C F ρ δ σ) {d : D} {v : V} (r : Rep C F ρ d v) (i : Nat) : RepS C F ρ (δ.set i (some d)) (σ.set i (some v)) := by
  refine ⟨by rw [List.length_set, List.length_set]; exact h.1, fun j e q => ?_⟩
  by_cases hj : i = j
  · subst hj
    by_cases hi : i < δ.length
    · rw [List.getElem?_set_self hi] at q
      cases q
      exact ⟨v, List.getElem?_set_self (h.1 ▸ hi), r⟩
    · rw [List.getElem?_eq_none (by simpa using hi)] at q; cases q
  · rw [List.getElem?_set_ne hj] at q ⊢
    exact h.2 j e q
theorem RepS.unset (h : RepS C F ρ δ σ) (i : Nat) : RepS C F ρ (δ.set i none) (σ.set i none) := by
  refine ⟨by rw [List.length_set, List.length_set]; exact h.1, fun j e q => ?_⟩
  by_cases hj : i = j
  · subst hj
    by_cases hi : i < δ.length
    · rw [List.getElem?_set_self hi] at q; cases q
    · rw [List.getElem?_eq_none (by simpa using hi)] at q; cases q
  · rw [List.getElem?_set_ne hj] at q ⊢
    exact h.2 j e q
def dwipe (δ : DEnv) : List Nat → DEnv
  | [] => δ
  | v :: vs => (dwipe δ vs).set v none
theorem RepS.wipe (h : RepS C F ρ δ σ) : ∀ vs : List Nat, RepS C F ρ (dwipe δ vs) (L2.wipe σ vs)
  | [] => h
  | v :: vs => (RepS.wipe h vs).unset v
end

/-- an exception: its class by name, its fields -/
structure RepX (C : Ctx) (F : Hp) (ρ : Loc0) (c : Str) (fs : List D) (cls : Value) (dd : Option Addr) : Prop where
  cls : C.mg c = some cls ∧ ∃ a, cls = .ref a
  fs : ∃ vs, RepL C F ρ fs vs ∧ ((vs = [] ∧ dd = none) ∨ ∃ d ns, dd = some d ∧ F d = some (.xd ns) ∧ vs = xflat ns)
theorem RepX.ext {C : Ctx} {F F' : Hp} {ρ ρ' : Loc0} (e : Ext F ρ F' ρ') {c : Str} {fs : List D} {cls : Value} {dd : Option Addr} (h : RepX C F ρ c fs cls dd) : RepX C F' ρ' c fs cls dd := by
  obtain ⟨h1, vs, h2, h3⟩ := h
  refine ⟨h1, vs, h2.ext e, ?_⟩
  rcases h3 with h3 | ⟨d, ns, h3, h4, h5⟩
  · exact .inl h3
  · exact .inr ⟨d, ns, h3, e.f _ _ h4, h5⟩

/-! ### posts -/
def Post (C : Ctx) (F : Hp) (ρ : Loc0) (QD : DQ) (Q : VK) : Prop := ∀ F' ρ' κ' H' d v, Ext F ρ F' ρ' → StR C F' ρ' κ' H' → Rep C F' ρ' d v → QD d κ' → Q v H'
def PostT (C : Ctx) (F : Hp) (ρ : Loc0) (QD : Bool → Kap → Prop) (Q : Bool → Hp → Prop) : Prop := ∀ F' ρ' κ' H' b, Ext F ρ F' ρ' → StR C F' ρ' κ' H' → QD b κ' → Q b H'
def PostA (C : Ctx) (F : Hp) (ρ : Loc0) (QD : List D → Kap → Prop) (Q : List V → Hp → Prop) : Prop := ∀ F' ρ' κ' H' ds vs, Ext F ρ F' ρ' → StR C F' ρ' κ' H' → RepL C F' ρ' ds vs → QD ds κ' → Q vs H'
def PostN (C : Ctx) (F : Hp) (ρ : Loc0) (QD : DEnv → Kap → Prop) (Q : L2.St → Hp → Prop) : Prop := ∀ F' ρ' κ' H' δ σ, Ext F ρ F' ρ' → StR C F' ρ' κ' H' → RepS C F' ρ' δ σ → QD δ κ' → Q σ H'
def PostX (C : Ctx) (F : Hp) (ρ : Loc0) (XD : DX) (W : WX) : Prop := ∀ F' ρ' κ' H' δ σ c fs cls dd, Ext F ρ F' ρ' → StR C F' ρ' κ' H' → RepS C F' ρ' δ σ → RepX C F' ρ' c fs cls dd → XD δ c fs κ' → W cls dd σ H'
structure PostE (C : Ctx) (F : Hp) (ρ : Loc0) (DD : DEnds) (T : Ends) : Prop where
  nx : PostN C F ρ DD.nx T.nx
  rt : Post C F ρ DD.rt T.rt
  bk : PostN C F ρ DD.bk T.bk
  ct : PostN C F ρ DD.ct T.ct
section
variable {C : Ctx} {F F' : Hp} {ρ ρ' : Loc0}
theorem Post.ext (e : Ext F ρ F' ρ') {QD : DQ} {Q : VK} (h : Post C F ρ QD Q) : Post C F' ρ' QD Q := fun F2 ρ2 κ H d v e2 => h F2 ρ2 κ H d v (e.trans e2)
theorem PostT.ext (e : Ext F ρ F' ρ') {QD : Bool → Kap → Prop} {Q : Bool → Hp → Prop} (h : PostT C F ρ QD Q) : PostT C F' ρ' QD Q := fun F2 ρ2 κ H d e2 => h F2 ρ2 κ H d (e.trans e2)
theorem PostA.ext (e : Ext F ρ F' ρ') {QD : List D → Kap → Prop} {Q : List V → Hp → Prop} (h : PostA C F ρ QD Q) : PostA C F' ρ' QD Q := fun F2 ρ2 κ H d v e2 => h F2 ρ2 κ H d v (e.trans e2)
theorem PostN.ext (e : Ext F ρ F' ρ') {QD : DEnv → Kap → Prop} {Q : L2.St → Hp → Prop} (h : PostN C F ρ QD Q) : PostN C F' ρ' QD Q := fun F2 ρ2 κ H d v e2 => h F2 ρ2 κ H d v (e.trans e2)
theorem PostX.ext (e : Ext F ρ F' ρ') {XD : DX} {W : WX} (h : PostX C F ρ XD W) : PostX C F' ρ' XD W := fun F2 ρ2 κ H a b c d x y e2 => h F2 ρ2 κ H a b c d x y (e.trans e2)
theorem PostE.ext (e : Ext F ρ F' ρ') {DD : DEnds} {T : Ends} (h : PostE C F ρ DD T) : PostE C F' ρ' DD T := ⟨h.nx.ext e, h.rt.ext e, h.bk.ext e, h.ct.ext e⟩
end

/-! ### lifts -/
def liftE (C : Ctx) (W : WX) (de : DE) : TE := fun σ H Q => ∃ F ρ κ δ XD QD, StR C F ρ κ H ∧ RepS C F ρ δ σ ∧ de δ κ XD QD ∧ Post C F ρ QD Q ∧ PostX C F ρ XD W
def liftT (C : Ctx) (W : WX) (dt : DT) : TT := fun σ H Q => ∃ F ρ κ δ XD QD, StR C F ρ κ H ∧ RepS C F ρ δ σ ∧ dt δ κ XD QD ∧ PostT C F ρ QD Q ∧ PostX C F ρ XD W
def liftA (C : Ctx) (W : WX) (da : DA) : TA := fun σ H Q => ∃ F ρ κ δ XD QD, StR C F ρ κ H ∧ RepS C F ρ δ σ ∧ da δ κ XD QD ∧ PostA C F ρ QD Q ∧ PostX C F ρ XD W
def liftS (C : Ctx) (W : WX) (ds : DS) : TS := fun T σ H => ∃ F ρ κ δ XD DD, StR C F ρ κ H ∧ RepS C F ρ δ σ ∧ ds δ κ XD DD ∧ PostE C F ρ DD T ∧ PostX C F ρ XD W
abbrev CtxOf (X : Cx) : Ctx := ⟨X.K, X.mg⟩
abbrev PED (X : Cx) (W : WX) (e : Expr) (de : DE) : Prop := PE X e (liftE (CtxOf X) W de)
abbrev PTD (X : Cx) (W : WX) (e : Expr) (dt : DT) : Prop := PT X e (liftT (CtxOf X) W dt)
abbrev PAD (X : Cx) (W : WX) (es : List Expr) (da : DA) : Prop := PA X es (liftA (CtxOf X) W da)
abbrev PSD (X : Cx) (W : WX) (st : Stmt) (ds : DS) : Prop := PS X st (liftS (CtxOf X) W ds)
abbrev PSsD (X : Cx) (W : WX) (st : List Stmt) (ds : DS) : Prop := PSs X st (liftS (CtxOf X) W ds)

section
variable {X : Cx}
theorem pe_weak {e : Expr} {t t' : TE} (h : PE X e t) (w : ∀ σ H Q, t' σ H Q → t σ H Q) : PE X e t' := ⟨fun pins s σ H Q I q => h.run pins s σ H Q I (w σ H Q q)⟩
theorem pt_weak {e : Expr} {t t' : TT} (h : PT X e t) (w : ∀ σ H Q, t' σ H Q → t σ H Q) : PT X e t' := ⟨fun pins s σ H Q I q => h.run pins s σ H Q I (w σ H Q q)⟩
theorem pa_weak {e : List Expr} {t t' : TA} (h : PA X e t) (w : ∀ σ H Q, t' σ H Q → t σ H Q) : PA X e t' := ⟨fun pos pins s σ H Q I q => h.run pos pins s σ H Q I (w σ H Q q)⟩
theorem ps_weak {e : Stmt} {t t' : TS} (h : PS X e t) (w : ∀ T σ H, t' T σ H → t T σ H) : PS X e t' := ⟨fun pins s σ H T I q => h.run pins s σ H T I (w T σ H q)⟩
theorem pss_weak {e : List Stmt} {t t' : TS} (h : PSs X e t) (w : ∀ T σ H, t' T σ H → t T σ H) : PSs X e t' := ⟨fun pins s σ H T I q => h.run pins s σ H T I (w T σ H q)⟩
end
end DL

/-! DL: expressions. -/
namespace DL
open PySem PySem.Spec PyProof.Rows L2

abbrev D1 := D → Kap → DQ → Prop
abbrev D2 := D → D → Kap → DQ → Prop
abbrev DN := List D → Kap → DQ → Prop
abbrev D1N := D → List D → Kap → DQ → Prop
def Sim1 (C : Ctx) (f : D1) (r : V → Hp → VK → Prop) : Prop := ∀ F ρ κ H x v QD Q, StR C F ρ κ H → Rep C F ρ x v → f x κ QD → Post C F ρ QD Q → r v H Q
def Sim2 (C : Ctx) (f : D2) (r : R2) : Prop := ∀ F ρ κ H x y v u QD Q, StR C F ρ κ H → Rep C F ρ x v → Rep C F ρ y u → f x y κ QD → Post C F ρ QD Q → r v u H Q
def SimN (C : Ctx) (f : DN) (r : List V → Hp → VK → Prop) : Prop := ∀ F ρ κ H xs vs QD Q, StR C F ρ κ H → RepL C F ρ xs vs → f xs κ QD → Post C F ρ QD Q → r vs H Q
def Sim1N (C : Ctx) (f : D1N) (r : V → List V → Hp → VK → Prop) : Prop := ∀ F ρ κ H x v xs vs QD Q, StR C F ρ κ H → Rep C F ρ x v → RepL C F ρ xs vs → f x xs κ QD → Post C F ρ QD Q → r v vs H Q

/-! ### combinators -/
def dVar (i : Nat) : DE := fun δ κ _ Q => match δ[i]? with
  | some (some d) => Q d κ
  | _ => False
def dC (d : D) : DE := fun _ κ _ Q => Q d κ
def dOp (f : D2) (a b : DE) : DE := fun δ κ X Q => a δ κ X fun x κ1 => b δ κ1 X fun y κ2 => f x y κ2 Q
def dUn (f : D1) (a : DE) : DE := fun δ κ X Q => a δ κ X fun x κ1 => f x κ1 Q
def dNil : DA := fun _ κ _ Q => Q [] κ
def dCons (a : DE) (r : DA) : DA := fun δ κ X Q => a δ κ X fun x κ1 => r δ κ1 X fun xs κ2 => Q (x :: xs) κ2
def dB (f : DN) (as : DA) : DE := fun δ κ X Q => as δ κ X fun xs κ1 => f xs κ1 Q
/-- what is new: kept (false), or a cell (true) -/
def fNew (m : Bool) (k : Kd) (xs : List D) (κ : Kap) (Q : DQ) : Prop := match m with
  | false => Q (.node k xs) κ
  | true => ∀ n, κ n = none → Q (.cell n) (kset κ n (.live k xs))
def dTup (as : DA) : DE := fun δ κ X Q => as δ κ X fun xs κ1 => xs.length ≤ sizeLine ∧ Q (.tup xs) κ1
def dLst (m : Bool) (as : DA) : DE := fun δ κ X Q => as δ κ X fun xs κ1 => xs.length ≤ sizeLine ∧ fNew m .lst xs κ1 Q
/-- what a thing holds -/
def view (x : D) (κ : Kap) : Option (Kd × List D) := match x with
  | .node k xs => some (k, xs)
  | .cell n => match κ n with
    | some (.live k xs) => some (k, xs)
    | _ => none
  | _ => none
def truth (x : D) (κ : Kap) : Option Bool := match x with
  | .non => some false
  | .bl b => some b
  | .int i => some (i != 0)
  | .str y => if y.length ≤ sizeLine then some ((y.length : Int) != 0) else none
  | x => match view x κ with
    | some (.lst, xs) => some (!xs.isEmpty)
    | some (.tup, xs) => some (!xs.isEmpty)
    | some (.dct ks, _) => some (!ks.isEmpty)
    | _ => none
def withTruth (x : D) (κ : Kap) (P : Bool → Prop) : Prop := match truth x κ with
  | some b => P b
  | none => False
def dAnd (a b : DE) : DE := fun δ κ X Q => a δ κ X fun x κ1 => withTruth x κ1 fun t => if t = true then b δ κ1 X Q else Q x κ1
def dOr (a b : DE) : DE := fun δ κ X Q => a δ κ X fun x κ1 => withTruth x κ1 fun t => if t = true then Q x κ1 else b δ κ1 X Q
def dNot (a : DE) : DE := fun δ κ X Q => a δ κ X fun x κ1 => withTruth x κ1 fun t => Q (.bl (!t)) κ1
def dIf (t : DT) (a b : DE) : DE := fun δ κ X Q => t δ κ X fun k κ1 => if k = true then a δ κ1 X Q else b δ κ1 X Q
def dChain (f g : D2) (a b c : DE) : DE := fun δ κ X Q => a δ κ X fun x κ1 => b δ κ1 X fun y κ2 => f x y κ2 fun z κ3 => ∃ k, z = .bl k ∧ if k = true then c δ κ3 X (fun w κ4 => g y w κ4 Q) else Q (.bl false) κ3
/-! tests -/
def tTru (a : DE) : DT := fun δ κ X Q => a δ κ X fun x κ1 => withTruth x κ1 fun t => Q t κ1
def tBl (a : DE) : DT := fun δ κ X Q => a δ κ X fun x κ1 => ∃ k, x = .bl k ∧ Q k κ1
def tAndD (a b : DT) : DT := fun δ κ X Q => a δ κ X fun t κ1 => if t = true then b δ κ1 X Q else Q false κ1
def tOrD (a b : DT) : DT := fun δ κ X Q => a δ κ X fun t κ1 => if t = true then Q true κ1 else b δ κ1 X Q
def tNotD (a : DT) : DT := fun δ κ X Q => a δ κ X fun t κ1 => Q (!t) κ1

/-! ### lifts of combinators -/
section
variable {C : Ctx} {W : WX} {σ : L2.St} {H : Hp} {Q : VK} {a b c : DE}
theorem lift_op {f : D2} {r : R2} (hs : Sim2 C f r) (h : liftE C W (dOp f a b) σ H Q) : tOp r (liftE C W a) (liftE C W b) σ H Q := by
  obtain ⟨F, ρ, κ, δ, XD, QD, S, R, h, P, PX⟩ := h
  exact ⟨F, ρ, κ, δ, XD, _, S, R, h, fun F1 ρ1 κ1 H1 x v e1 S1 R1 h1 => ⟨F1, ρ1, κ1, δ, XD, _, S1, R.ext e1, h1, fun F2 ρ2 κ2 H2 y u e2 S2 R2 h2 => hs _ _ _ _ _ _ _ _ _ _ S2 (R1.ext e2) R2 h2 (P.ext (e1.trans e2)), PX.ext e1⟩, PX⟩
theorem lift_un {f : D1} {r : V → Hp → VK → Prop} (hs : Sim1 C f r) (h : liftE C W (dUn f a) σ H Q) : tUn r (liftE C W a) σ H Q := by
  obtain ⟨F, ρ, κ, δ, XD, QD, S, R, h, P, PX⟩ := h
  exact ⟨F, ρ, κ, δ, XD, _, S, R, h, fun F1 ρ1 κ1 H1 x v e1 S1 R1 h1 => hs _ _ _ _ _ _ _ _ S1 R1 h1 (P.ext e1), PX⟩
theorem lift_nil {Q : List V → Hp → Prop} (h : liftA C W dNil σ H Q) : tNil σ H Q := by
  obtain ⟨F, ρ, κ, δ, XD, QD, S, R, h, P, PX⟩ := h
  exact P _ _ _ _ _ _ (Ext.refl _ _) S .nil h
theorem lift_cons {r : DA} {Q : List V → Hp → Prop} (h : liftA C W (dCons a r) σ H Q) : tCons (liftE C W a) (liftA C W r) σ H Q := by
  obtain ⟨F, ρ, κ, δ, XD, QD, S, R, h, P, PX⟩ := h
  exact ⟨F, ρ, κ, δ, XD, _, S, R, h, fun F1 ρ1 κ1 H1 x v e1 S1 R1 h1 => ⟨F1, ρ1, κ1, δ, XD, _, S1, R.ext e1, h1, fun F2 ρ2 κ2 H2 ys us e2 S2 R2 h2 => P _ _ _ _ _ _ (e1.trans e2) S2 (.cons (R1.ext e2) R2) h2, PX.ext e1⟩, PX⟩
theorem lift_B {f : DN} {r : List V → Hp → VK → Prop} {as : DA} (hs : SimN C f r) (h : liftE C W (dB f as) σ H Q) : tCB r (liftA C W as) σ H Q := by
  obtain ⟨F, ρ, κ, δ, XD, QD, S, R, h, P, PX⟩ := h
  exact ⟨F, ρ, κ, δ, XD, _, S, R, h, fun F1 ρ1 κ1 H1 x v e1 S1 R1 h1 => hs _ _ _ _ _ _ _ _ S1 R1 h1 (P.ext e1), PX⟩
end

/-! ### new things -/
section
variable {C : Ctx} {F : Hp} {ρ : Loc0} {κ : Kap} {H : Hp} {Q : VK} {QD : DQ}
/-- what is new: o is the object, by its content -/
theorem new_of {m : Bool} {k : Kd} {o : HO} {xs : List D} {vs : List V} (S : StR C F ρ κ H) (r : RepL C F ρ xs vs) (hk : ∀ (F : Hp) (p : Addr), F p = some o → HoldK C F k p vs) (hm : ∀ (F : Hp) (p : Addr), F p = some o → HoldM C F k p vs) (h : fNew m k xs κ QD) (P : Post C F ρ QD Q) :
    ∀ p, H p = none → Q (.ref p) (upd H p o) := fun p hp => by
  cases m with
  | false =>
    obtain ⟨e, S1⟩ := S.laid (o := o) hp
    exact P _ _ _ _ _ _ e S1 (.node (hk _ _ upd_same) (r.ext e)) h
  | true =>
    obtain ⟨n, hn⟩ := S.fresh
    obtain ⟨ρ', e, hr, S1⟩ := S.cell (o := o) hp (fun H' q => hm H' p q) r hn
    exact P _ _ _ _ _ _ e S1 (.cell hr) (h n hn)
theorem new_lst {m : Bool} {xs : List D} {vs : List V} (S : StR C F ρ κ H) (r : RepL C F ρ xs vs) (h : fNew m .lst xs κ QD) (P : Post C F ρ QD Q) : ∀ p, H p = none → Q (.ref p) (upd H p (.lst vs)) :=
  new_of (k := .lst) S r (fun _ _ e => e) (fun _ _ e => e) h P
theorem new_tup {xs : List D} {vs : List V} (S : StR C F ρ κ H) (r : RepL C F ρ xs vs) (h : QD (.tup xs) κ) (P : Post C F ρ QD Q) : ∀ p, H p = none → Q (.ref p) (upd H p (.tup vs)) := fun p hp => by
  obtain ⟨e, S1⟩ := S.laid (o := .tup vs) hp
  exact P _ _ _ _ _ _ e S1 (.node (k := .tup) (SqT.of upd_same) (r.ext e)) h
theorem new_dct {m : Bool} {kvs : List (Key × V)} {xs : List D} (S : StR C F ρ κ H) (r : RepL C F ρ xs (kvs.map (·.2))) (h : fNew m (.dct (kvs.map (·.1))) xs κ QD) (P : Post C F ρ QD Q) : ∀ p, H p = none → Q (.ref p) (upd H p (.dK kvs)) :=
  new_of (k := .dct (kvs.map (·.1))) S r (fun _ _ e => ⟨kvs, e, rfl, rfl⟩) (fun _ _ e => ⟨kvs, e, rfl, rfl⟩) h P
/-- a kept thing, or a cell, as it lies in the heap -/
theorem view_at {x : D} {v : V} {k : Kd} {xs : List D} (S : StR C F ρ κ H) (r : Rep C F ρ x v) (h : view x κ = some (k, xs)) : ∃ a vs, v = .ref a ∧ HoldK C H k a vs ∧ RepL C F ρ xs vs := by
  cases r with
  | node hh rr =>
    cases h
    exact ⟨_, _, rfl, hh.ext S.sub, rr⟩
  | @cell n a hr =>
    have h' : (match κ n with
      | some (.live k xs) => some (k, xs)
      | _ => none) = some (k, xs) := h
    cases e : κ n with
    | none => rw [e] at h'; cases h'
    | some c =>
      cases c with
      | dead => rw [e] at h'; cases h'
      | live k' xs' =>
        rw [e] at h'
        cases h'
        obtain ⟨b, vs, h1, h2, h3, h4⟩ := S.live n k xs e
        rw [hr] at h1
        cases h1
        obtain ⟨o, ho, hk⟩ := h3.toK
        exact ⟨a, vs, rfl, hk H ho, h4⟩
  | _ => cases h
/-- a cell, as it may be written -/
theorem cell_at {n : Nat} {v : V} {k : Kd} {xs : List D} (S : StR C F ρ κ H) (r : Rep C F ρ (.cell n) v) (h : κ n = some (.live k xs)) : ∃ a vs, v = .ref a ∧ ρ n = some a ∧ HoldM C H k a vs ∧ RepL C F ρ xs vs := by
  cases r with
  | @cell n a hr =>
    obtain ⟨b, vs, h1, h2, h3, h4⟩ := S.live n k xs h
    rw [hr] at h1
    cases h1
    exact ⟨a, vs, rfl, hr, h3, h4⟩
theorem truth_at {x : D} {v : V} {t : Bool} (S : StR C F ρ κ H) (r : Rep C F ρ x v) (h : truth x κ = some t) : TruV C.K v H t := by
  have key : ∀ {x : D} {v : V}, Rep C F ρ x v → (match view x κ with
    | some (.lst, xs) => some (!xs.isEmpty)
    | some (.tup, xs) => some (!xs.isEmpty)
    | some (.dct ks, _) => some (!ks.isEmpty)
    | _ => none) = some t → TruV C.K v H t := by
    intro x v r h
    cases e : view x κ with
    | none => rw [e] at h; cases h
    | some p =>
      obtain ⟨k, xs⟩ := p
      obtain ⟨a, vs, rfl, hk, rl⟩ := view_at S r e
      have el : xs.isEmpty = vs.isEmpty := by
        have := rl.length
        cases xs <;> cases vs <;> first | rfl | (simp at this)
      rw [e] at h
      cases k with
      | lst => cases h; exact .inl ⟨vs, SqL.of hk, by rw [el]⟩
      | tup => cases h; exact .inr (.inl ⟨vs, hk, by rw [el]⟩)
      | dct ks =>
        cases h
        obtain ⟨kvs, h1, rfl, h3⟩ := hk
        exact .inr (.inr ⟨kvs, h1, by cases kvs <;> rfl⟩)
      | _ => cases h
  cases x with
  | non => cases r; cases h; rfl
  | bl b => cases r; cases h; rfl
  | int i => cases r; cases h; rfl
  | str y =>
    cases r
    have h' : (if y.length ≤ sizeLine then some ((y.length : Int) != 0) else none) = some t := h
    by_cases hy : y.length ≤ sizeLine
    · rw [if_pos hy] at h'
      cases h'
      exact ⟨hy, rfl⟩
    · rw [if_neg hy] at h'; cases h'
  | node k xs => exact key r h
  | cell n => exact key r h
  | _ => cases h
theorem withTruth_at {x : D} {v : V} {P : Bool → Prop} (S : StR C F ρ κ H) (r : Rep C F ρ x v) (h : withTruth x κ P) : ∃ t, TruV C.K v H t ∧ P t := by
  unfold withTruth at h
  cases e : truth x κ with
  | none => rw [e] at h; exact h.elim
  | some t => rw [e] at h; exact ⟨t, truth_at S r e, h⟩
end

/-! ### expressions' rules -/
section
variable {X : Cx} {W : WX} {e e1 e2 e3 : Expr} {es : List Expr} {a b c : DE} {as : DA} {t u : DT} {pos : Pos}
theorem pd_var (i : Nat) {x : Str} {pos : Pos} (hN : X.N[i]? = some x := by rfl) (hv : Vis X.env.scope x := by first | exact Or.inl rfl | exact Or.inr (Or.inl rfl) | exact Or.inr (Or.inr rfl)) (hd : (x == ("__debug__" : Str)) = false := by decide)
    (hcd : (x == ("__classdict__" : Str)) = false := by decide) : PED X W (.Name x pos) (dVar i) := pe_weak (pe_var hN hv hd hcd) fun σ H Q ⟨F, ρ, κ, δ, XD, QD, S, R, h, P, PX⟩ => by
  unfold dVar at h
  cases e : δ[i]? with
  | none => rw [e] at h; exact h.elim
  | some o =>
    cases o with
    | none => rw [e] at h; exact h.elim
    | some d =>
      rw [e] at h
      obtain ⟨v, h1, h2⟩ := R.2 i d e
      exact ⟨v, h1, P _ _ _ _ _ _ (Ext.refl _ _) S h2 h⟩
theorem pd_c {d : D} {v : V} (h : PE X e (tC v)) (r : ∀ F ρ, Rep (CtxOf X) F ρ d v) : PED X W e (dC d) := pe_weak h fun σ H Q ⟨F, ρ, κ, δ, XD, QD, S, R, h, P, PX⟩ => P _ _ _ _ _ _ (Ext.refl _ _) S (r _ _) h
theorem pd_int {i j pos} : PED X W (.Constant (.int i) j pos) (dC (.int i)) := pd_c pe_int fun _ _ => .int i
theorem pd_bl {b j pos} : PED X W (.Constant (.bool b) j pos) (dC (.bl b)) := pd_c pe_bl fun _ _ => .bl b
theorem pd_non {j pos} : PED X W (.Constant .none j pos) (dC .non) := pd_c pe_non fun _ _ => .non
theorem pd_str {x j pos} : PED X W (.Constant (.str x) j pos) (dC (.str x)) := pd_c pe_str fun _ _ => .str x
theorem pd_op {op : Operator} {f : D2} {r : R2} (ho : OpR X (binaryOp op) r) (hs : Sim2 (CtxOf X) f r) (ha : PED X W e1 a) (hb : PED X W e2 b) : PED X W (.BinOp e1 op e2 pos) (dOp f a b) := pe_weak (pe_op ho ha hb) fun _ _ _ => lift_op hs
theorem pd_un {op : UnaryOp} {f : D1} {r : V → Hp → VK → Prop} (ho : UnR X (unaryOp op) r) (hs : Sim1 (CtxOf X) f r) (ha : PED X W e1 a) : PED X W (.UnaryOp op e1 pos) (dUn f a) := pe_weak (pe_un ho ha) fun _ _ _ => lift_un hs
theorem pd_cmp {op : CmpOp} {f : D2} {r : R2} (ho : OpR X (compareOp op) r) (hs : Sim2 (CtxOf X) f r) (ha : PED X W e1 a) (hb : PED X W e2 b) (hm : behindInMarks op e2 = false := by first | exact nomark _ | rfl) : PED X W (.Compare e1 [op] [e2] pos) (dOp f a b) := pe_weak (pe_cmpR ho ha hb hm) fun _ _ _ => lift_op hs
theorem pa_nilD : PAD X W [] dNil := pa_weak pa_nil fun _ _ _ => lift_nil
theorem pa_consD (ha : PED X W e a) (hr : PAD X W es as) (hs : starEach (e :: es) X.env = (false, eval e X.env) :: starEach es X.env := by rfl) : PAD X W (e :: es) (dCons a as) := pa_weak (pa_cons ha hr hs) fun _ _ _ => lift_cons
theorem pd_tup {x1} (h : PAD X W es as) : PED X W (.Tuple es x1 pos) (dTup as) := pe_weak (pe_tup h) fun σ H Q ⟨F, ρ, κ, δ, XD, QD, S, R, h, P, PX⟩ =>
  ⟨F, ρ, κ, δ, XD, _, S, R, h, fun F1 ρ1 κ1 H1 xs vs e1 S1 R1 h1 => ⟨by rw [← R1.length]; exact h1.1, new_tup S1 R1 h1.2 (P.ext e1)⟩, PX⟩
theorem pd_lst (m : Bool) (h : PAD X W es as) : PED X W (.List es pos) (dLst m as) := pe_weak (pe_lst h) fun σ H Q ⟨F, ρ, κ, δ, XD, QD, S, R, h, P, PX⟩ =>
  ⟨F, ρ, κ, δ, XD, _, S, R, h, fun F1 ρ1 κ1 H1 xs vs e1 S1 R1 h1 => ⟨by rw [← R1.length]; exact h1.1, new_lst S1 R1 h1.2 (P.ext e1)⟩, PX⟩
theorem pd_one {op} (h : PED X W e a) : PED X W (.BoolOp op [e] pos) a := pe_one h
theorem pd_and (ha : PED X W e1 a) (hb : PED X W (.BoolOp .And (e2 :: es) pos) b) : PED X W (.BoolOp .And (e1 :: e2 :: es) pos) (dAnd a b) := pe_weak (pe_andT ha hb) fun σ H Q ⟨F, ρ, κ, δ, XD, QD, S, R, h, P, PX⟩ =>
  ⟨F, ρ, κ, δ, XD, _, S, R, h, fun F1 ρ1 κ1 H1 x v e1 S1 R1 h1 => by
    obtain ⟨t, ht, q⟩ := withTruth_at S1 R1 h1
    refine ⟨t, ht, ?_⟩
    cases t with
    | true => exact ⟨F1, ρ1, κ1, δ, XD, _, S1, R.ext e1, q, P.ext e1, PX.ext e1⟩
    | false => exact P _ _ _ _ _ _ e1 S1 R1 q, PX⟩
theorem pd_or (ha : PED X W e1 a) (hb : PED X W (.BoolOp .Or (e2 :: es) pos) b) : PED X W (.BoolOp .Or (e1 :: e2 :: es) pos) (dOr a b) := pe_weak (pe_orT ha hb) fun σ H Q ⟨F, ρ, κ, δ, XD, QD, S, R, h, P, PX⟩ =>
  ⟨F, ρ, κ, δ, XD, _, S, R, h, fun F1 ρ1 κ1 H1 x v e1 S1 R1 h1 => by
    obtain ⟨t, ht, q⟩ := withTruth_at S1 R1 h1
    refine ⟨t, ht, ?_⟩
    cases t with
    | false => exact ⟨F1, ρ1, κ1, δ, XD, _, S1, R.ext e1, q, P.ext e1, PX.ext e1⟩
    | true => exact P _ _ _ _ _ _ e1 S1 R1 q, PX⟩
theorem pd_not (ha : PED X W e1 a) : PED X W (.UnaryOp .Not e1 pos) (dNot a) := pe_weak (pe_notT ha) fun σ H Q ⟨F, ρ, κ, δ, XD, QD, S, R, h, P, PX⟩ =>
  ⟨F, ρ, κ, δ, XD, _, S, R, h, fun F1 ρ1 κ1 H1 x v e1 S1 R1 h1 => by
    obtain ⟨t, ht, q⟩ := withTruth_at S1 R1 h1
    exact ⟨t, ht, P _ _ _ _ _ _ e1 S1 (.bl _) q⟩, PX⟩
theorem pd_if (ht : PTD X W e1 t) (ha : PED X W e2 a) (hb : PED X W e3 b) : PED X W (.IfExp e1 e2 e3 pos) (dIf t a b) := pe_weak (pe_ifExp ht ha hb) fun σ H Q ⟨F, ρ, κ, δ, XD, QD, S, R, h, P, PX⟩ =>
  ⟨F, ρ, κ, δ, XD, _, S, R, h, fun F1 ρ1 κ1 H1 k e1 S1 h1 => by
    cases k with
    | true => exact ⟨F1, ρ1, κ1, δ, XD, _, S1, R.ext e1, h1, P.ext e1, PX.ext e1⟩
    | false => exact ⟨F1, ρ1, κ1, δ, XD, _, S1, R.ext e1, h1, P.ext e1, PX.ext e1⟩, PX⟩
theorem lift_chain {C : Ctx} {f g : D2} {r r' : R2} (hs : Sim2 C f r) (hs' : Sim2 C g r') {σ : L2.St} {H : Hp} {Q : VK} (h : liftE C W (dChain f g a b c) σ H Q) : tChain r r' (liftE C W a) (liftE C W b) (liftE C W c) σ H Q := by
  obtain ⟨F, ρ, κ, δ, XD, QD, S, R, h, P, PX⟩ := h
  refine ⟨F, ρ, κ, δ, XD, _, S, R, h, fun F1 ρ1 κ1 H1 x v e1 S1 R1 h1 => ⟨F1, ρ1, κ1, δ, XD, _, S1, R.ext e1, h1, fun F2 ρ2 κ2 H2 y u e2 S2 R2 h2 => hs _ _ _ _ _ _ _ _ _ _ S2 (R1.ext e2) R2 h2 fun F3 ρ3 κ3 H3 z w e3 S3 R3 h3 => ?_, PX.ext e1⟩, PX⟩
  obtain ⟨k, rfl, q⟩ := h3
  cases R3
  refine ⟨k, rfl, ?_⟩
  have e123 := e1.trans (e2.trans e3)
  cases k with
  | true => exact ⟨F3, ρ3, κ3, δ, XD, _, S3, R.ext e123, q, fun F4 ρ4 κ4 H4 w u4 e4 S4 R4 h4 => hs' _ _ _ _ _ _ _ _ _ _ S4 (R2.ext (e3.trans e4)) R4 h4 (P.ext (e123.trans e4)), PX.ext e123⟩
  | false => exact P _ _ _ _ _ _ e123 S3 (.bl _) q
theorem pd_chain {op op' : CmpOp} {f g : D2} {r r' : R2} (ho : OpR X (compareOp op) r) (hs : Sim2 (CtxOf X) f r) (ho' : OpR X (compareOp op') r') (hs' : Sim2 (CtxOf X) g r') (ha : PED X W e1 a) (hb : PED X W e2 b) (hc : PED X W e3 c)
    (hm : lastMarks [op, op'] [e2, e3] = false := by with_unfolding_all rfl) : PED X W (.Compare e1 [op, op'] [e2, e3] pos) (dChain f g a b c) := pe_weak (pe_chain ho ho' ha hb hc hm) fun _ _ _ => lift_chain hs hs'
/-! tests -/
theorem lift_tBl {C : Ctx} {te : TE} {de : DE} (hl : ∀ {σ H Q}, liftE C W de σ H Q → te σ H Q) {σ : L2.St} {H : Hp} {Q : Bool → Hp → Prop} (h : liftT C W (tBl de) σ H Q) : tTest te σ H Q := by
  obtain ⟨F, ρ, κ, δ, XD, QD, S, R, h, P, PX⟩ := h
  refine hl ⟨F, ρ, κ, δ, XD, _, S, R, h, fun F1 ρ1 κ1 H1 x v e1 S1 R1 h1 => ?_, PX⟩
  obtain ⟨k, rfl, q⟩ := h1
  cases R1
  exact ⟨k, rfl, P _ _ _ _ _ e1 S1 q⟩
theorem pt_cmpD {op : CmpOp} {f : D2} {r : R2} (ho : OpR X (compareOp op) r) (hs : Sim2 (CtxOf X) f r) (ha : PED X W e1 a) (hb : PED X W e2 b) (hm : behindInMarks op e2 = false := by first | exact nomark _ | rfl) : PTD X W (.Compare e1 [op] [e2] pos) (tBl (dOp f a b)) :=
  pt_weak (pt_cmpR ho ha hb hm) fun _ _ _ => lift_tBl (lift_op hs)
theorem pt_chainD {op op' : CmpOp} {f g : D2} {r r' : R2} (ho : OpR X (compareOp op) r) (hs : Sim2 (CtxOf X) f r) (ho' : OpR X (compareOp op') r') (hs' : Sim2 (CtxOf X) g r') (ha : PED X W e1 a) (hb : PED X W e2 b) (hc : PED X W e3 c)
    (hm : lastMarks [op, op'] [e2, e3] = false := by with_unfolding_all rfl) : PTD X W (.Compare e1 [op, op'] [e2, e3] pos) (tBl (dChain f g a b c)) := pt_weak (pt_chain ho ho' ha hb hc hm) fun _ _ _ => lift_tBl (lift_chain hs hs')
theorem pt_truD (ha : PED X W e a) (he : ∀ whole, isTrue e X.env whole = (do let v ← whole; standAt e.pos; holding [v] (truthy v)) := by intro _; rfl) : PTD X W e (tTru a) := pt_weak (pt_truth ha he) fun σ H Q ⟨F, ρ, κ, δ, XD, QD, S, R, h, P, PX⟩ =>
  ⟨F, ρ, κ, δ, XD, _, S, R, h, fun F1 ρ1 κ1 H1 x v e1 S1 R1 h1 => by
    obtain ⟨t, ht, q⟩ := withTruth_at S1 R1 h1
    exact ⟨t, ht, P _ _ _ _ _ e1 S1 q⟩, PX⟩
theorem pt_notD (ha : PTD X W e t) : PTD X W (.UnaryOp .Not e pos) (tNotD t) := pt_weak (pt_not ha) fun σ H Q ⟨F, ρ, κ, δ, XD, QD, S, R, h, P, PX⟩ =>
  ⟨F, ρ, κ, δ, XD, _, S, R, h, fun F1 ρ1 κ1 H1 x e1 S1 h1 => P _ _ _ _ _ e1 S1 h1, PX⟩
abbrev PWD (X : Cx) (W : WX) (e : Expr) (dt : DT) : Prop := PW X e (liftT (CtxOf X) W dt)
theorem pw_weak {e : Expr} {t t' : TT} (h : PW X e t) (w : ∀ σ H Q, t' σ H Q → t σ H Q) : PW X e t' := ⟨fun wh pins s σ H Q I q => h.run wh pins s σ H Q I (w σ H Q q)⟩
theorem pw_and1D (ha : PTD X W e t) : PWD X W (.BoolOp .And [e] pos) t := pw_and1 ha
theorem pw_or1D (ha : PTD X W e t) : PWD X W (.BoolOp .Or [e] pos) t := pw_or1 ha
theorem pw_andD (ha : PTD X W e1 t) (hb : PWD X W (.BoolOp .And (e2 :: es) pos) u) : PWD X W (.BoolOp .And (e1 :: e2 :: es) pos) (tAndD t u) := pw_weak (pw_and ha hb) fun σ H Q ⟨F, ρ, κ, δ, XD, QD, S, R, h, P, PX⟩ =>
  ⟨F, ρ, κ, δ, XD, _, S, R, h, fun F1 ρ1 κ1 H1 k e1 S1 h1 => by
    cases k with
    | true => exact ⟨F1, ρ1, κ1, δ, XD, _, S1, R.ext e1, h1, P.ext e1, PX.ext e1⟩
    | false => exact P _ _ _ _ _ e1 S1 h1, PX⟩
theorem pw_orD (ha : PTD X W e1 t) (hb : PWD X W (.BoolOp .Or (e2 :: es) pos) u) : PWD X W (.BoolOp .Or (e1 :: e2 :: es) pos) (tOrD t u) := pw_weak (pw_or ha hb) fun σ H Q ⟨F, ρ, κ, δ, XD, QD, S, R, h, P, PX⟩ =>
  ⟨F, ρ, κ, δ, XD, _, S, R, h, fun F1 ρ1 κ1 H1 k e1 S1 h1 => by
    cases k with
    | true => exact P _ _ _ _ _ e1 S1 h1
    | false => exact ⟨F1, ρ1, κ1, δ, XD, _, S1, R.ext e1, h1, P.ext e1, PX.ext e1⟩, PX⟩
/-! built-ins by name -/
theorem pd_callB {x : Str} {p : Pos} {id : String} {f : DN} {r : List V → Hp → VK → Prop} (hc : CallR X (.builtin id) r) (hs : SimN (CtxOf X) f r) (hm : X.mg x = none) (ha : PAD X W (e :: es) as) (hg : Gl X x := by rfl) (hv : bootBuiltins x = some (.builtin id) := by decide +kernel) (hn : x ≠ "__name__" := by decide) (hdb : (x == ("__debug__" : Str)) = false := by decide)
    (he : starEach (e :: es) X.env = (false, eval e X.env) :: starEach es X.env := by rfl) (hpl : (backTo pos (starEach es X.env)).any (·.1) = false := by rfl) : PED X W (.Call (.Name x p) (e :: es) [] pos) (dB f as) :=
  pe_weak (pe_callB hc hg hm hv ha hn hdb he hpl) fun _ _ _ => lift_B hs
theorem pd_callTy {x : Str} {p : Pos} {T : String} {f : DN} {r : List V → Hp → VK → Prop} (hc : CallR X (.type T) r) (hs : SimN (CtxOf X) f r) (hm : X.mg x = none) (ha : PAD X W (e :: es) as) (hg : Gl X x := by rfl) (hv : bootBuiltins x = some (.type T) := by decide +kernel) (hn : x ≠ "__name__" := by decide) (hdb : (x == ("__debug__" : Str)) = false := by decide)
    (he : starEach (e :: es) X.env = (false, eval e X.env) :: starEach es X.env := by rfl) (hpl : (backTo pos (starEach es X.env)).any (·.1) = false := by rfl) : PED X W (.Call (.Name x p) (e :: es) [] pos) (dB f as) :=
  pe_weak (pe_callTy hc hg hm hv ha hn hdb he hpl) fun _ _ _ => lift_B hs
theorem pd_tyName {x : Str} {p : Pos} {T : String} (hm : X.mg x = none) (hg : Gl X x := by rfl) (hv : bootBuiltins x = some (.type T) := by decide +kernel) (hn : x ≠ "__name__" := by decide) (hdb : (x == ("__debug__" : Str)) = false := by decide) : PED X W (.Name x p) (dC (.ty T)) :=
  pd_c (v := .ty T) (pe_bltn hg hm hv rfl hn hdb) fun _ _ => .ty T
theorem pd_glbRef {x : Str} {p : Pos} {f : Addr} (hm : X.mg x = some (.ref f)) (hg : Gl X x := by rfl) (hdb : (x == ("__debug__" : Str)) = false := by decide) : PED X W (.Name x p) (dC (.glb x)) :=
  pd_c (v := .ref f) (pe_glob hg hm rfl hdb) fun _ _ => .glb hm
theorem pd_glbStr {x y : Str} {p : Pos} (hm : ∃ t, X.mg x = some (.str y t)) (hg : Gl X x := by rfl) (hdb : (x == ("__debug__" : Str)) = false := by decide) : PED X W (.Name x p) (dC (.str y)) := by
  obtain ⟨t, hm⟩ := hm
  exact pd_c (v := .str y) (pe_glob hg hm ⟨t, rfl⟩ hdb) fun _ _ => .str y
theorem pd_glbInt {x : Str} {i : Int} {p : Pos} (hm : ∃ t, X.mg x = some (.int i t)) (hg : Gl X x := by rfl) (hdb : (x == ("__debug__" : Str)) = false := by decide) : PED X W (.Name x p) (dC (.int i)) := by
  obtain ⟨t, hm⟩ := hm
  exact pd_c (v := .int i) (pe_glob hg hm ⟨t, rfl⟩ hdb) fun _ _ => .int i
end

/-! ### operators over data -/
theorem OpR.or {X : Cx} {f : Value → Value → Sem Value} {r r' : R2} (h : OpR X f r) (h' : OpR X f r') : OpR X f (fun x y H Q => r x y H Q ∨ r' x y H Q) := by
  intro pins s σ H x y v u Q I rx ry q
  rcases q with q | q
  · exact h pins s σ H x y v u Q I rx ry q
  · exact h' pins s σ H x y v u Q I rx ry q
theorem CallR.or {X : Cx} {f : Value} {r r' : List V → Hp → VK → Prop} (h : CallR X f r) (h' : CallR X f r') : CallR X f (fun xs H Q => r xs H Q ∨ r' xs H Q) := by
  intro pins s σ H xs us Q I rx q
  rcases q with q | q
  · exact h pins s σ H xs us Q I rx q
  · exact h' pins s σ H xs us Q I rx q
/-- two whole numbers, under a condition -/
def fI (c : Int → Int → Prop) (g : Int → Int → D) : D2 := fun x y κ Q => match x, y with
  | .int i, .int j => c i j ∧ Q (g i j) κ
  | _, _ => False
theorem sim_I {C : Ctx} {c : Int → Int → Prop} {g : Int → Int → Int} : Sim2 C (fI c fun i j => .int (g i j)) (rI c fun i j => .int (g i j)) := by
  intro F ρ κ H x y v u QD Q S rx ry h P
  cases x <;> cases y <;> first | exact h.elim | skip
  cases rx; cases ry
  exact ⟨_, _, rfl, rfl, h.1, P _ _ _ _ _ _ (Ext.refl _ _) S (.int _) h.2⟩
theorem sim_IB {C : Ctx} {g : Int → Int → Bool} : Sim2 C (fI (fun _ _ => True) fun i j => .bl (g i j)) (rI0 fun i j => .bl (g i j)) := by
  intro F ρ κ H x y v u QD Q S rx ry h P
  cases x <;> cases y <;> first | exact h.elim | skip
  cases rx; cases ry
  exact ⟨_, _, rfl, rfl, P _ _ _ _ _ _ (Ext.refl _ _) S (.bl _) h.2⟩
theorem sim_I0 {C : Ctx} {g : Int → Int → Int} : Sim2 C (fI (fun _ _ => True) fun i j => .int (g i j)) (rI0 fun i j => .int (g i j)) := by
  intro F ρ κ H x y v u QD Q S rx ry h P
  cases x <;> cases y <;> first | exact h.elim | skip
  cases rx; cases ry
  exact ⟨_, _, rfl, rfl, P _ _ _ _ _ _ (Ext.refl _ _) S (.int _) h.2⟩
/-- a floor division's divisor -/
def CDivD (_ j : Int) : Prop := j ≠ 0 ∧ j.natAbs.log2 < 9000
theorem op_fdivD {X : Cx} : OpR X (binaryOp .FloorDiv) (rI CDivD fun i j => .int (i.fdiv j)) := opI fun _ _ _ _ _ _ _ hc q => floordiv_int hc.1 q (.inl (PyProof.noPylong_of_log2 hc.2))
def fSub : D2 := fI (fun _ _ => True) fun i j => .int (i - j)
def fDiv : D2 := fI CDivD fun i j => .int (i.fdiv j)
def fMod : D2 := fI (fun _ j => j ≠ 0) fun i j => .int (i.fmod j)
def fMulI : D2 := fI CMulW fun i j => .int (i * j)
def fPow : D2 := fI CPow fun i j => .int (i ^ j.toNat)
def fShl : D2 := fI CPow fun i j => .int (i * 2 ^ j.toNat)
def fShr : D2 := fI (fun _ j => 0 ≤ j) fun i j => .int (i / 2 ^ j.toNat)
def fAnd : D2 := fI (fun _ _ => True) fun i j => .int (Builtin.bitAnd i j)
def fOr : D2 := fI (fun _ _ => True) fun i j => .int (Builtin.bitOr i j)
def fLt : D2 := fI (fun _ _ => True) fun i j => .bl (decide (i < j))
def fLe : D2 := fI (fun _ _ => True) fun i j => .bl (decide (i ≤ j))
def fGt : D2 := fI (fun _ _ => True) fun i j => .bl (decide (j < i))
def fGe : D2 := fI (fun _ _ => True) fun i j => .bl (decide (j ≤ i))
section
variable {X : Cx} {W : WX} {e1 e2 : Expr} {a b : DE} {pos : Pos}
theorem pd_sub (ha : PED X W e1 a) (hb : PED X W e2 b) : PED X W (.BinOp e1 .Sub e2 pos) (dOp fSub a b) := pd_op op_sub sim_I0 ha hb
theorem pd_fdiv (ha : PED X W e1 a) (hb : PED X W e2 b) : PED X W (.BinOp e1 .FloorDiv e2 pos) (dOp fDiv a b) := pd_op op_fdivD sim_I ha hb
theorem pd_mod (ha : PED X W e1 a) (hb : PED X W e2 b) : PED X W (.BinOp e1 .Mod e2 pos) (dOp fMod a b) := pd_op op_modN sim_I ha hb
theorem pd_mulI (ha : PED X W e1 a) (hb : PED X W e2 b) : PED X W (.BinOp e1 .Mult e2 pos) (dOp fMulI a b) := pd_op op_mulW sim_I ha hb
theorem pd_pow (ha : PED X W e1 a) (hb : PED X W e2 b) : PED X W (.BinOp e1 .Pow e2 pos) (dOp fPow a b) := pd_op op_pow sim_I ha hb
theorem pd_shl (ha : PED X W e1 a) (hb : PED X W e2 b) : PED X W (.BinOp e1 .LShift e2 pos) (dOp fShl a b) := pd_op op_shl sim_I ha hb
theorem pd_shr (ha : PED X W e1 a) (hb : PED X W e2 b) : PED X W (.BinOp e1 .RShift e2 pos) (dOp fShr a b) := pd_op op_shr sim_I ha hb
theorem pd_band (ha : PED X W e1 a) (hb : PED X W e2 b) : PED X W (.BinOp e1 .BitAnd e2 pos) (dOp fAnd a b) := pd_op op_and sim_I0 ha hb
theorem pd_bor (ha : PED X W e1 a) (hb : PED X W e2 b) : PED X W (.BinOp e1 .BitOr e2 pos) (dOp fOr a b) := pd_op op_or sim_I0 ha hb
end
/-- a + b: numbers, texts, lists, tuples; what is new is kept, or a cell -/
def fAdd (m : Bool) : D2 := fun x y κ Q => match x, y with
  | .int i, .int j => Q (.int (i + j)) κ
  | .str i, .str j => i.length + j.length ≤ sizeLine ∧ Q (.str (i ++ j)) κ
  | x, y => match view x κ, view y κ with
    | some (.lst, xs), some (.lst, ys) => xs.length + ys.length ≤ sizeLine ∧ fNew m .lst (xs ++ ys) κ Q
    | some (.tup, xs), some (.tup, ys) => xs ≠ [] ∧ ys ≠ [] ∧ xs.length + ys.length ≤ sizeLine ∧ Q (.tup (xs ++ ys)) κ
    | _, _ => False
def rAddV (K : PySem.W.Frag) : R2 := fun x y H Q => (rI0 fun i j => .int (i + j)) x y H Q ∨ (∃ i j, x = .str i ∧ y = .str j ∧ i.length + j.length ≤ sizeLine ∧ Q (.str (i ++ j)) H) ∨ rCat x y H Q ∨ rCatT K x y H Q
theorem op_addV {X : Cx} : OpR X (binaryOp .Add) (rAddV X.K) := OpR.or op_add (OpR.or op_add_str (OpR.or op_cat op_catT))
theorem sim_add {C : Ctx} {m : Bool} : Sim2 C (fAdd m) (rAddV C.K) := by
  intro F ρ κ H x y v u QD Q S rx ry h P
  have key : (match view x κ, view y κ with
    | some (.lst, xs), some (.lst, ys) => xs.length + ys.length ≤ sizeLine ∧ fNew m .lst (xs ++ ys) κ QD
    | some (.tup, xs), some (.tup, ys) => xs ≠ [] ∧ ys ≠ [] ∧ xs.length + ys.length ≤ sizeLine ∧ QD (.tup (xs ++ ys)) κ
    | _, _ => False) → rAddV C.K v u H Q := by
    intro h
    cases ex : view x κ with
    | none => rw [ex] at h; exact h.elim
    | some p =>
      cases ey : view y κ with
      | none => rw [ex, ey] at h; exact (show False by obtain ⟨k, xs⟩ := p; cases k <;> exact h).elim
      | some q =>
        obtain ⟨k, xs⟩ := p
        obtain ⟨k', ys⟩ := q
        rw [ex, ey] at h
        obtain ⟨p, vs, rfl, hk, rl⟩ := view_at S rx ex
        obtain ⟨q, us, rfl, hk', rl'⟩ := view_at S ry ey
        have l1 := rl.length
        have l2 := rl'.length
        cases k <;> cases k' <;> first | exact h.elim | skip
        · exact .inr (.inr (.inl ⟨p, q, vs, us, rfl, rfl, hk, hk', by rw [← l1, ← l2]; exact h.1, new_lst S (rl.append rl') h.2 P⟩))
        · obtain ⟨h1, h2, h3, h4⟩ := h
          refine .inr (.inr (.inr ⟨p, q, vs, us, rfl, rfl, hk, hk', ?_, by rw [← l1, ← l2]; exact h3, fun z => ?_, fun _ => new_tup S (rl.append rl') h4 P⟩))
          · intro z
            rw [z] at l1
            cases xs with
            | nil => exact h1 rfl
            | cons => simp at l1
          · rw [z] at l2
            cases ys with
            | nil => exact absurd rfl h2
            | cons => simp at l2
  cases x with
  | int i =>
    cases y with
    | int j => cases rx; cases ry; exact .inl ⟨i, j, rfl, rfl, P _ _ _ _ _ _ (Ext.refl _ _) S (.int _) h⟩
    | _ => exact key h
  | str i =>
    cases y with
    | str j => cases rx; cases ry; exact .inr (.inl ⟨i, j, rfl, rfl, h.1, P _ _ _ _ _ _ (Ext.refl _ _) S (.str _) h.2⟩)
    | _ => exact key h
  | _ => exact key h
theorem pd_add {X : Cx} {W : WX} {e1 e2 : Expr} {a b : DE} {pos : Pos} (m : Bool) (ha : PED X W e1 a) (hb : PED X W e2 b) : PED X W (.BinOp e1 .Add e2 pos) (dOp (fAdd m) a b) := pd_op op_addV sim_add ha hb
end DL

/-! DL: built-ins, subscripts, comparisons of data. -/
namespace DL
open PySem PySem.Spec PyProof.Rows L2

/-! ### data as the library's own data -/
def keyD : Key → D
  | .inl i => .int i
  | .inr x => .str x
def keyP : Key → PyData
  | .inl i => .int i
  | .inr x => .str x
mutual
inductive Pd (κ : Kap) : D → PyData → Prop
  | non : Pd κ .non .none
  | bl (b : Bool) : Pd κ (.bl b) (.bool b)
  | int (i : Int) : Pd κ (.int i) (.int i)
  | str (x : Str) : Pd κ (.str x) (.str x)
  | lst {x : D} {xs : List D} {ps : List PyData} (h : view x κ = some (.lst, xs)) (t : PdL κ xs ps) : Pd κ x (.list ps)
  | tup {x : D} {xs : List D} {ps : List PyData} (h : view x κ = some (.tup, xs)) (t : PdL κ xs ps) : Pd κ x (.tuple ps)
  | dct {x : D} {ks : List Key} {xs : List D} {ps : List PyData} (h : view x κ = some (.dct ks, xs)) (t : PdL κ xs ps) : Pd κ x (.dict ((ks.map keyP).zip ps))
inductive PdL (κ : Kap) : List D → List PyData → Prop
  | nil : PdL κ [] []
  | cons {d : D} {ds : List D} {p : PyData} {ps : List PyData} (h : Pd κ d p) (t : PdL κ ds ps) : PdL κ (d :: ds) (p :: ps)
end
mutual
def pdata : D → Option PyData
  | .non => some .none
  | .bl b => some (.bool b)
  | .int i => some (.int i)
  | .str x => some (.str x)
  | .node .lst xs => match pdataL xs with
    | some ps => some (.list ps)
    | none => none
  | .node .tup xs => match pdataL xs with
    | some ps => some (.tuple ps)
    | none => none
  | .node (.dct ks) xs => match pdataL xs with
    | some ps => some (.dict ((ks.map keyP).zip ps))
    | none => none
  | _ => none
def pdataL : List D → Option (List PyData)
  | [] => some []
  | x :: xs => match pdata x, pdataL xs with
    | some p, some ps => some (p :: ps)
    | _, _ => none
end
mutual
theorem pd_of {κ : Kap} : ∀ {x : D} {p : PyData}, pdata x = some p → Pd κ x p
  | .non, _, h => by cases h; exact .non
  | .bl b, _, h => by cases h; exact .bl b
  | .int i, _, h => by cases h; exact .int i
  | .str x, _, h => by cases h; exact .str x
  | .node .lst xs, p, h => by
    unfold pdata at h
    cases e : pdataL xs with
    | none => rw [e] at h; cases h
    | some ps => rw [e] at h; cases h; exact .lst rfl (pdL_of e)
  | .node .tup xs, p, h => by
    unfold pdata at h
    cases e : pdataL xs with
    | none => rw [e] at h; cases h
    | some ps => rw [e] at h; cases h; exact .tup rfl (pdL_of e)
  | .node (.dct ks) xs, p, h => by
    unfold pdata at h
    cases e : pdataL xs with
    | none => rw [e] at h; cases h
    | some ps => rw [e] at h; cases h; exact .dct rfl (pdL_of e)
  | .node .klst xs, p, h => by cases h
  | .node (.obj _ _) xs, p, h => by cases h
  | .node (.exc _ _) xs, p, h => by cases h
  | .ty _, _, h => by cases h
  | .glb _, _, h => by cases h
  | .cell _, _, h => by cases h
theorem pdL_of {κ : Kap} : ∀ {xs : List D} {ps : List PyData}, pdataL xs = some ps → PdL κ xs ps
  | [], _, h => by cases h; exact .nil
  | x :: xs, _, h => by
    unfold pdataL at h
    cases e1 : pdata x with
    | none => rw [e1] at h; cases h
    | some p =>
      cases e2 : pdataL xs with
      | none => rw [e1, e2] at h; cases h
      | some ps => rw [e1, e2] at h; cases h; exact .cons (pd_of e1) (pdL_of e2)
end

/-- what a rule may lean on where it stands -/
structure Good (k : Nat) (X : Cx) (W : WX) : Prop where
  tk : L2N.Takes X W
  po : PassesOwn (model X.prog X.w) X.A X.env X.xe
  rm : Room k X.A
  gd : X.A.guards = some []
  sm : ∃ o, X.base.get? sysModules = some o
  calm : X.calm = true
  nd : X.N.Nodup
theorem Good.mono {j k : Nat} {X : Cx} {W : WX} (g : Good k X W) (h : j ≤ k) : Good j X W := ⟨g.tk, g.po, g.rm.mono h, g.gd, g.sm, g.calm, g.nd⟩
section
variable {X : Cx} {pins : List (Addr × Obj)} {σ : L2.St} {H : Hp} {s : Shared} {F : Hp} {ρ : Loc0} {κ : Kap}
theorem pairs_read : ∀ {es : List DictEntry} {kvs : List (Key × Value)} {P : Program} {w : World}, Pairs (mixKind P w) es kvs → (∃ as, ReadsAll s.heap (es.map (·.key)) ((kvs.map (·.1)).map keyP) as ∧ as = []) ∧ es.map (·.val) = kvs.map (·.2)
  | _, _, _, _, .nil => ⟨⟨[], .nil, rfl⟩, rfl⟩
  | _, _, P, w, .cons (e := e) (kv := kv) h1 h2 t => by
    obtain ⟨⟨as, h3, h4⟩, h5⟩ := pairs_read t
    subst h4
    refine ⟨⟨[] ++ [], ?_, rfl⟩, ?_⟩
    · rw [List.map_cons, List.map_cons, List.map_cons]
      refine .cons ?_ h3
      have h1' : keyIs kv.1 e.key = true := h1
      rcases keyIs_shape h1' with ⟨i, t, e1, e2⟩ | ⟨x, t, e1, e2⟩
      · rw [e1, e2]; exact .int i t
      · rw [e1, e2]; exact .str x t
    · rw [List.map_cons, List.map_cons, h5, h2]
theorem kv_split : ∀ {kvs : List (Key × V)} {vs : List (Key × Value)}, KV kvs vs → vs.map (·.1) = kvs.map (·.1) ∧ Vals (kvs.map (·.2)) (vs.map (·.2))
  | _, _, .nil => ⟨rfl, .nil⟩
  | _, _, .cons r t => by
    obtain ⟨h1, h2⟩ := kv_split t
    exact ⟨by rw [List.map_cons, List.map_cons, h1, r.1], .cons r.2 h2⟩
theorem dk_zip {as : List PyData} {bs : List PyData} (h : as.length = bs.length) : (as.zip bs).map (·.1) = as ∧ (as.zip bs).map (·.2) = bs := ⟨List.map_fst_zip (Nat.le_of_eq h), List.map_snd_zip (Nat.le_of_eq h.symm)⟩
theorem PdL.length : ∀ {xs : List D} {ps : List PyData}, PdL κ xs ps → xs.length = ps.length
  | _, _, .nil => rfl
  | _, _, .cons _ t => congrArg (· + 1) (PdL.length t)
mutual
theorem Pd.reads (I : Inv X pins σ H s) (sm : H sysModules = none) (S : StR (CtxOf X) F ρ κ H) : ∀ {x : D} {p : PyData} {v : V} {u : Value}, Pd κ x p → Rep (CtxOf X) F ρ x v → RelV v u → ∃ as, Reads s.heap u p as ∧ sysModules ∉ as
  | _, _, _, _, .non, r, rv => by cases r; cases rv; exact ⟨_, .none, fun h => by cases h⟩
  | _, _, _, _, .bl b, r, rv => by cases r; cases rv; exact ⟨_, .bool b, fun h => by cases h⟩
  | _, _, _, _, .int i, r, rv => by cases r; obtain ⟨t, rfl⟩ := rv; exact ⟨_, .int i t, fun h => by cases h⟩
  | _, _, _, _, .str x, r, rv => by cases r; obtain ⟨t, rfl⟩ := rv; exact ⟨_, .str x t, fun h => by cases h⟩
  | _, _, _, _, .lst h t, r, rv => by
    obtain ⟨a, vs, rfl, hk, rl⟩ := view_at S r h
    cases rv
    obtain ⟨its, rv, ⟨o, n, ho, hc, hdd, hd⟩, _⟩ := I.list (SqL.of hk)
    obtain ⟨as, hr, hn⟩ := PdL.reads I sm S t rl rv
    refine ⟨_, .list ho hc hd hr, fun hm => ?_⟩
    rcases List.mem_cons.mp hm with e | e
    · have hk' : H a = some (.lst vs) := hk
      rw [← e, sm] at hk'; cases hk'
    · exact hn e
  | _, _, _, _, .tup h t, r, rv => by
    obtain ⟨a, vs, rfl, hk, rl⟩ := view_at S r h
    cases rv
    obtain ⟨its, rv, ⟨o, ho, hc, n, hd⟩, _⟩ := I.tuple hk
    obtain ⟨as, hr, hn⟩ := PdL.reads I sm S t rl rv
    exact ⟨_, .tuple ho hc hd hr, hn⟩
  | _, _, _, _, .dct (ks := ks) (ps := ps) h t, r, rv => by
    obtain ⟨a, vs, rfl, ⟨kvs, hk, hk1, hk2⟩, rl⟩ := view_at S r h
    cases rv
    obtain ⟨_, hsys, vals, rel, o, es, ep, ho, hx, hd, _, hp, _⟩ := dk_of I.hok hk
    obtain ⟨q1, q2⟩ := kv_split rel
    obtain ⟨⟨as, hr, h0⟩, hv⟩ := pairs_read (s := s) hp
    subst h0
    rw [hk2] at q2
    obtain ⟨bs, hr2, hn⟩ := PdL.reads I sm S t rl (hv ▸ q2)
    have hl : (ks.map keyP).length = ps.length := by
      rw [← t.length, rl.length, ← hk1, ← hk2]
      simp only [List.length_map]
    obtain ⟨z1, z2⟩ := dk_zip hl
    refine ⟨_, .dict (as := []) (bs := bs) ho hx.1 hd (by rw [z1, ← hk1, ← q1]; exact hr) (by rw [z2]; exact hr2), fun hm => ?_⟩
    have hm' : sysModules ∈ a :: bs := hm
    rcases List.mem_cons.mp hm' with e | e
    · rw [← e, sm] at hk; cases hk
    · exact hn e
theorem PdL.reads (I : Inv X pins σ H s) (sm : H sysModules = none) (S : StR (CtxOf X) F ρ κ H) : ∀ {xs : List D} {ps : List PyData} {vs : List V} {us : List Value}, PdL κ xs ps → RepL (CtxOf X) F ρ xs vs → Vals vs us → ∃ as, ReadsAll s.heap us ps as ∧ sysModules ∉ as
  | _, _, _, _, .nil, r, rv => by cases r; cases rv; exact ⟨_, .nil, fun h => by cases h⟩
  | _, _, _, _, .cons h t, r, rv => by
    cases r with
    | cons r1 r2 =>
      cases rv with
      | cons v1 v2 =>
        obtain ⟨as, q1, n1⟩ := Pd.reads I sm S h r1 v1
        obtain ⟨bs, q2, n2⟩ := PdL.reads I sm S t r2 v2
        exact ⟨_, .cons q1 q2, fun hm => (List.mem_append.mp hm).elim n1 n2⟩
end
theorem Inv.sysm (I : Inv X pins σ H s) (sm : ∃ o, X.base.get? sysModules = some o) : H sysModules = none := let ⟨o, h⟩ := sm; (I.bs _ _ h).2
end

/-- two data, a truth -/
def fDat (g : PyData → PyData → Bool) : D2 := fun x y κ Q => ∃ p q, Pd κ x p ∧ Pd κ y q ∧ SeqAt.shaped p = true ∧ SeqAt.shaped q = true ∧ Q (.bl (g p q)) κ
def rDat (C : Ctx) (g : PyData → PyData → Bool) : R2 := fun v u H Q => ∃ F ρ κ x y p q, StR C F ρ κ H ∧ Rep C F ρ x v ∧ Rep C F ρ y u ∧ Pd κ x p ∧ Pd κ y q ∧ SeqAt.shaped p = true ∧ SeqAt.shaped q = true ∧ Q (.bl (g p q)) H
theorem sim_dat {C : Ctx} {g : PyData → PyData → Bool} : Sim2 C (fDat g) (rDat C g) := fun F ρ κ H x y v u QD Q S rx ry ⟨p, q, h1, h2, h3, h4, h5⟩ P => ⟨F, ρ, κ, x, y, p, q, S, rx, ry, h1, h2, h3, h4, P _ _ _ _ _ _ (Ext.refl _ _) S (.bl _) h5⟩
/-- x in ys: data in a list or a tuple -/
def inP (d : PyData) : PyData → Bool
  | .list ds => ds.any fun z => PyData.eqv z d
  | .tuple ds => ds.any fun z => PyData.eqv z d
  | _ => false
section
variable {X : Cx} {W : WX} {k : Nat}
theorem op_eqDat (g : Good k X W) : OpR X (compareOp .Eq) (rDat (CtxOf X) PyData.eqv) := by
  intro pins s σ H x y v u Q I rx ry ⟨F, ρ, κ, dx, dy, p, q, S, r1, r2, h1, h2, h3, h4, h5⟩
  obtain ⟨as, q1, _⟩ := Pd.reads I (Inv.sysm I g.sm) S h1 r1 rx
  obtain ⟨bs, q2, _⟩ := Pd.reads I (Inv.sysm I g.sm) S h2 r2 ry
  exact SeqAt.compareEq_shaped q1 q2 h3 h4 g.rm.units ⟨.bl _, H, I, rfl, h5⟩
theorem op_neDat (g : Good k X W) : OpR X (compareOp .NotEq) (rDat (CtxOf X) fun p q => !PyData.eqv p q) := by
  intro pins s σ H x y v u Q I rx ry ⟨F, ρ, κ, dx, dy, p, q, S, r1, r2, h1, h2, h3, h4, h5⟩
  obtain ⟨as, q1, _⟩ := Pd.reads I (Inv.sysm I g.sm) S h1 r1 rx
  obtain ⟨bs, q2, _⟩ := Pd.reads I (Inv.sysm I g.sm) S h2 r2 ry
  exact SeqAt.compareNe_shaped q1 q2 h3 h4 g.rm.units ⟨.bl _, H, I, rfl, h5⟩
end
def fEq : D2 := fDat PyData.eqv
def fNe : D2 := fDat fun p q => !PyData.eqv p q
section
variable {X : Cx} {W : WX} {k : Nat} {e1 e2 : Expr} {a b : DE} {pos : Pos}
theorem pd_eq (g : Good k X W) (ha : PED X W e1 a) (hb : PED X W e2 b) : PED X W (.Compare e1 [.Eq] [e2] pos) (dOp fEq a b) := pd_cmp (op_eqDat g) sim_dat ha hb
theorem pd_ne (g : Good k X W) (ha : PED X W e1 a) (hb : PED X W e2 b) : PED X W (.Compare e1 [.NotEq] [e2] pos) (dOp fNe a b) := pd_cmp (op_neDat g) sim_dat ha hb
theorem pt_eq (g : Good k X W) (ha : PED X W e1 a) (hb : PED X W e2 b) : PTD X W (.Compare e1 [.Eq] [e2] pos) (tBl (dOp fEq a b)) := pt_cmpD (op_eqDat g) sim_dat ha hb
theorem pt_ne (g : Good k X W) (ha : PED X W e1 a) (hb : PED X W e2 b) : PTD X W (.Compare e1 [.NotEq] [e2] pos) (tBl (dOp fNe a b)) := pt_cmpD (op_neDat g) sim_dat ha hb
end

/-! ### order: numbers, texts -/
def fOrd (gi : Int → Int → Bool) (gs : Str → Str → Bool) : D2 := fun x y κ Q => match x, y with
  | .int i, .int j => Q (.bl (gi i j)) κ
  | .str i, .str j => Q (.bl (gs i j)) κ
  | _, _ => False
def rOrd (gi : Int → Int → Bool) (gs : Str → Str → Bool) : R2 := fun x y H Q => (rI0 fun i j => .bl (gi i j)) x y H Q ∨ ∃ i j, x = .str i ∧ y = .str j ∧ Q (.bl (gs i j)) H
theorem sim_ord {C : Ctx} {gi : Int → Int → Bool} {gs : Str → Str → Bool} : Sim2 C (fOrd gi gs) (rOrd gi gs) := by
  intro F ρ κ H x y v u QD Q S rx ry h P
  cases x <;> cases y <;> first | exact h.elim | skip
  · cases rx; cases ry; exact .inl ⟨_, _, rfl, rfl, P _ _ _ _ _ _ (Ext.refl _ _) S (.bl _) h⟩
  · cases rx; cases ry; exact .inr ⟨_, _, rfl, rfl, P _ _ _ _ _ _ (Ext.refl _ _) S (.bl _) h⟩
def fLtS : D2 := fOrd (fun i j => decide (i < j)) fun i j => decide (i.cps.toList < j.cps.toList)
def fLeS : D2 := fOrd (fun i j => decide (i ≤ j)) fun i j => !decide (j.cps.toList < i.cps.toList)
def fGtS : D2 := fOrd (fun i j => decide (j < i)) fun i j => decide (j.cps.toList < i.cps.toList)
def fGeS : D2 := fOrd (fun i j => decide (j ≤ i)) fun i j => !decide (i.cps.toList < j.cps.toList)
section
variable {X : Cx} {W : WX} {k : Nat} {e1 e2 e3 : Expr} {a b c : DE} {pos : Pos}
theorem op_ltS : OpR X (compareOp .Lt) (rOrd (fun i j => decide (i < j)) fun i j => decide (i.cps.toList < j.cps.toList)) := OpR.or op_lt op_lt_str
theorem op_leS : OpR X (compareOp .LtE) (rOrd (fun i j => decide (i ≤ j)) fun i j => !decide (j.cps.toList < i.cps.toList)) := OpR.or op_le op_le_str
theorem op_gtS : OpR X (compareOp .Gt) (rOrd (fun i j => decide (j < i)) fun i j => decide (j.cps.toList < i.cps.toList)) := OpR.or op_gt op_gt_str
theorem op_geS : OpR X (compareOp .GtE) (rOrd (fun i j => decide (j ≤ i)) fun i j => !decide (i.cps.toList < j.cps.toList)) := OpR.or op_ge op_ge_str
theorem pd_lt (ha : PED X W e1 a) (hb : PED X W e2 b) : PED X W (.Compare e1 [.Lt] [e2] pos) (dOp fLtS a b) := pd_cmp op_ltS sim_ord ha hb
theorem pd_le (ha : PED X W e1 a) (hb : PED X W e2 b) : PED X W (.Compare e1 [.LtE] [e2] pos) (dOp fLeS a b) := pd_cmp op_leS sim_ord ha hb
theorem pd_gt (ha : PED X W e1 a) (hb : PED X W e2 b) : PED X W (.Compare e1 [.Gt] [e2] pos) (dOp fGtS a b) := pd_cmp op_gtS sim_ord ha hb
theorem pd_ge (ha : PED X W e1 a) (hb : PED X W e2 b) : PED X W (.Compare e1 [.GtE] [e2] pos) (dOp fGeS a b) := pd_cmp op_geS sim_ord ha hb
theorem pt_lt (ha : PED X W e1 a) (hb : PED X W e2 b) : PTD X W (.Compare e1 [.Lt] [e2] pos) (tBl (dOp fLtS a b)) := pt_cmpD op_ltS sim_ord ha hb
theorem pt_le (ha : PED X W e1 a) (hb : PED X W e2 b) : PTD X W (.Compare e1 [.LtE] [e2] pos) (tBl (dOp fLeS a b)) := pt_cmpD op_leS sim_ord ha hb
theorem pt_gt (ha : PED X W e1 a) (hb : PED X W e2 b) : PTD X W (.Compare e1 [.Gt] [e2] pos) (tBl (dOp fGtS a b)) := pt_cmpD op_gtS sim_ord ha hb
theorem pt_ge (ha : PED X W e1 a) (hb : PED X W e2 b) : PTD X W (.Compare e1 [.GtE] [e2] pos) (tBl (dOp fGeS a b)) := pt_cmpD op_geS sim_ord ha hb
end

/-! ### is -/
def isNon : D → Bool
  | .non => true
  | _ => false
def fIs : D2 := fun x y κ Q => y = .non ∧ Q (.bl (isNon x)) κ
def fIsNot : D2 := fun x y κ Q => y = .non ∧ Q (.bl (!isNon x)) κ
theorem isNon_at {C : Ctx} {F : Hp} {ρ : Loc0} {x : D} {v : V} (r : Rep C F ρ x v) : decide (v = .non) = isNon x := by
  cases r <;> rfl
section
variable {X : Cx} {W : WX} {k : Nat} {e1 e2 : Expr} {a b : DE} {pos : Pos}
theorem sim_is {C : Ctx} : Sim2 C fIs (fun x y H Q => y = .non ∧ Q (.bl (decide (x = .non))) H) := fun F ρ κ H x y v u QD Q S rx ry ⟨h1, h2⟩ P => by
  subst h1; cases ry
  exact ⟨rfl, P _ _ _ _ _ _ (Ext.refl _ _) S (.bl _) (by rw [isNon_at rx]; exact h2)⟩
theorem sim_isNot {C : Ctx} : Sim2 C fIsNot (fun x y H Q => y = .non ∧ Q (.bl (!decide (x = .non))) H) := fun F ρ κ H x y v u QD Q S rx ry ⟨h1, h2⟩ P => by
  subst h1; cases ry
  exact ⟨rfl, P _ _ _ _ _ _ (Ext.refl _ _) S (.bl _) (by rw [isNon_at rx]; exact h2)⟩
theorem pd_is (ha : PED X W e1 a) (hb : PED X W e2 b) : PED X W (.Compare e1 [.Is] [e2] pos) (dOp fIs a b) := pd_cmp op_isN sim_is ha hb
theorem pd_isNot (ha : PED X W e1 a) (hb : PED X W e2 b) : PED X W (.Compare e1 [.IsNot] [e2] pos) (dOp fIsNot a b) := pd_cmp op_notN sim_isNot ha hb
theorem pt_is (ha : PED X W e1 a) (hb : PED X W e2 b) : PTD X W (.Compare e1 [.Is] [e2] pos) (tBl (dOp fIs a b)) := pt_cmpD op_isN sim_is ha hb
theorem pt_isNot (ha : PED X W e1 a) (hb : PED X W e2 b) : PTD X W (.Compare e1 [.IsNot] [e2] pos) (tBl (dOp fIsNot a b)) := pt_cmpD op_notN sim_isNot ha hb
end

/-! ### in -/
def strIn (i j : Str) : Bool := !(Builtin.Str.occurrences j i 0 j.length 1).isEmpty
def fIn (neg : Bool) : D2 := fun x y κ Q => match x, y with
  | .str i, .str j => Q (.bl (if neg then !strIn i j else strIn i j)) κ
  | x, y => ∃ p q, Pd κ x p ∧ Pd κ y q ∧ SeqAt.shaped p = true ∧ SeqAt.shaped q = true ∧ (∃ ds, q = .list ds ∨ q = .tuple ds) ∧ Q (.bl (if neg then !inP p q else inP p q)) κ
def rInP (C : Ctx) (neg : Bool) : R2 := fun v u H Q => (∃ i j, v = .str i ∧ u = .str j ∧ Q (.bl (if neg then !strIn i j else strIn i j)) H) ∨
  ∃ F ρ κ x y p q, StR C F ρ κ H ∧ Rep C F ρ x v ∧ Rep C F ρ y u ∧ Pd κ x p ∧ Pd κ y q ∧ SeqAt.shaped p = true ∧ SeqAt.shaped q = true ∧ (∃ ds, q = .list ds ∨ q = .tuple ds) ∧ Q (.bl (if neg then !inP p q else inP p q)) H
theorem sim_in {C : Ctx} {neg : Bool} : Sim2 C (fIn neg) (rInP C neg) := by
  intro F ρ κ H x y v u QD Q S rx ry h P
  have key : (∃ p q, Pd κ x p ∧ Pd κ y q ∧ SeqAt.shaped p = true ∧ SeqAt.shaped q = true ∧ (∃ ds, q = .list ds ∨ q = .tuple ds) ∧ QD (.bl (if neg then !inP p q else inP p q)) κ) → rInP C neg v u H Q :=
    fun ⟨p, q, h1, h2, h3, h4, h5, h6⟩ => .inr ⟨F, ρ, κ, x, y, p, q, S, rx, ry, h1, h2, h3, h4, h5, P _ _ _ _ _ _ (Ext.refl _ _) S (.bl _) h6⟩
  cases x with
  | str i =>
    cases y with
    | str j => cases rx; cases ry; exact .inl ⟨i, j, rfl, rfl, P _ _ _ _ _ _ (Ext.refl _ _) S (.bl _) h⟩
    | _ => exact key h
  | _ => exact key h
section
variable {X : Cx} {W : WX} {k : Nat} {e1 e2 : Expr} {a b : DE} {pos : Pos}
theorem room65 {A : Around} (h : Room k A) : A.units + 65 < cLine := by have := h.un; omega
theorem op_inP (g : Good k X W) : OpR X (compareOp .In) (rInP (CtxOf X) false) := by
  intro pins s σ H x y v u Q I rx ry h
  rcases h with h | ⟨F, ρ, κ, dx, dy, p, q, S, r1, r2, h1, h2, h3, h4, ⟨ds, e⟩, h5⟩
  · exact op_in_str pins s σ H x y v u Q I rx ry h
  · obtain ⟨as, q1, _⟩ := Pd.reads I (Inv.sysm I g.sm) S h1 r1 rx
    obtain ⟨bs, q2, _⟩ := Pd.reads I (Inv.sysm I g.sm) S h2 r2 ry
    rcases e with e | e
    · subst e
      exact SeqAt.in_list_reads q2 q1 (SeqAt.canLay_of_shaped h4) (SeqAt.canLay_of_shaped h3) (room_in_shaped h3 (room65 g.rm)) ⟨.bl _, H, I, rfl, h5⟩
    · subst e
      exact SeqAt.in_tuple_reads q2 q1 (SeqAt.canLay_of_shaped h4) (SeqAt.canLay_of_shaped h3) (room_in_shaped h3 (room65 g.rm)) ⟨.bl _, H, I, rfl, h5⟩
theorem op_notInP (g : Good k X W) : OpR X (compareOp .NotIn) (rInP (CtxOf X) true) := by
  intro pins s σ H x y v u Q I rx ry h
  rcases h with h | ⟨F, ρ, κ, dx, dy, p, q, S, r1, r2, h1, h2, h3, h4, ⟨ds, e⟩, h5⟩
  · exact op_notIn_str pins s σ H x y v u Q I rx ry h
  · obtain ⟨as, q1, _⟩ := Pd.reads I (Inv.sysm I g.sm) S h1 r1 rx
    obtain ⟨bs, q2, _⟩ := Pd.reads I (Inv.sysm I g.sm) S h2 r2 ry
    rcases e with e | e
    · subst e
      exact SeqAt.notIn_list_reads q2 q1 (SeqAt.canLay_of_shaped h4) (SeqAt.canLay_of_shaped h3) (room_in_shaped h3 (room65 g.rm)) ⟨.bl _, H, I, rfl, h5⟩
    · subst e
      exact SeqAt.notIn_tuple_reads q2 q1 (SeqAt.canLay_of_shaped h4) (SeqAt.canLay_of_shaped h3) (room_in_shaped h3 (room65 g.rm)) ⟨.bl _, H, I, rfl, h5⟩
theorem pd_in (g : Good k X W) (ha : PED X W e1 a) (hb : PED X W e2 b) (hm : behindInMarks .In e2 = false := by rfl) : PED X W (.Compare e1 [.In] [e2] pos) (dOp (fIn false) a b) := pd_cmp (op_inP g) sim_in ha hb hm
theorem pd_notIn (g : Good k X W) (ha : PED X W e1 a) (hb : PED X W e2 b) (hm : behindInMarks .NotIn e2 = false := by rfl) : PED X W (.Compare e1 [.NotIn] [e2] pos) (dOp (fIn true) a b) := pd_cmp (op_notInP g) sim_in ha hb hm
theorem pt_in (g : Good k X W) (ha : PED X W e1 a) (hb : PED X W e2 b) (hm : behindInMarks .In e2 = false := by rfl) : PTD X W (.Compare e1 [.In] [e2] pos) (tBl (dOp (fIn false) a b)) := pt_cmpD (op_inP g) sim_in ha hb hm
theorem pt_notIn (g : Good k X W) (ha : PED X W e1 a) (hb : PED X W e2 b) (hm : behindInMarks .NotIn e2 = false := by rfl) : PTD X W (.Compare e1 [.NotIn] [e2] pos) (tBl (dOp (fIn true) a b)) := pt_cmpD (op_notInP g) sim_in ha hb hm
end

/-! ### subscripts -/
def fIx : D2 := fun x y κ Q => match x, y with
  | .str z, .int i => z.length ≤ sizeLine ∧ ∃ c, atI z.cps.toList i = some c ∧ Q (.str ⟨#[c]⟩) κ
  | x, .int i => match view x κ with
    | some (.lst, xs) => ∃ d, atI xs i = some d ∧ Q d κ
    | some (.tup, xs) => ∃ d, atI xs i = some d ∧ Q d κ
    | some (.klst, xs) => ∃ d, atI xs i = some d ∧ Q d κ
    | _ => False
  | _, _ => False
theorem atI_at {C : Ctx} {F : Hp} {ρ : Loc0} {xs : List D} {vs : List V} {i : Int} {d : D} (r : RepL C F ρ xs vs) (h : atI xs i = some d) : ∃ v, atI vs i = some v ∧ Rep C F ρ d v := by
  unfold atI at h ⊢
  rw [← r.length]
  cases e : ixN xs.length i with
  | none => rw [e] at h; cases h
  | some j =>
    rw [e] at h
    exact r.get h
theorem sim_ix {C : Ctx} : Sim2 C fIx (rIx C.K) := by
  intro F ρ κ H x y v u QD Q S rx ry h P
  have hy : ∃ i, y = .int i := by
    cases y <;> first | exact ⟨_, rfl⟩ | (exfalso; cases x <;> exact h)
  obtain ⟨i, rfl⟩ := hy
  cases ry
  have key : (match view x κ with
    | some (.lst, xs) => ∃ d, atI xs i = some d ∧ QD d κ
    | some (.tup, xs) => ∃ d, atI xs i = some d ∧ QD d κ
    | some (.klst, xs) => ∃ d, atI xs i = some d ∧ QD d κ
    | _ => False) → rIx C.K v (.int i) H Q := by
    intro h
    cases ex : view x κ with
    | none => rw [ex] at h; exact h.elim
    | some p =>
      obtain ⟨k, xs⟩ := p
      rw [ex] at h
      obtain ⟨p, vs, rfl, hk, rl⟩ := view_at S rx ex
      cases k <;> first | exact h.elim | skip
      · obtain ⟨d, h1, h2⟩ := h
        obtain ⟨v, h3, h4⟩ := atI_at rl h1
        exact .inl ⟨p, vs, i, v, rfl, rfl, SqL.of hk, h3, P _ _ _ _ _ _ (Ext.refl _ _) S h4 h2⟩
      · obtain ⟨d, h1, h2⟩ := h
        obtain ⟨v, h3, h4⟩ := atI_at rl h1
        exact .inr (.inl ⟨p, vs, i, v, rfl, rfl, hk, h3, P _ _ _ _ _ _ (Ext.refl _ _) S h4 h2⟩)
      · obtain ⟨d, h1, h2⟩ := h
        obtain ⟨v, h3, h4⟩ := atI_at rl h1
        exact .inl ⟨p, vs, i, v, rfl, rfl, hk, h3, P _ _ _ _ _ _ (Ext.refl _ _) S h4 h2⟩
  cases x with
  | str z =>
    cases rx
    obtain ⟨h1, c, h2, h3⟩ := h
    exact .inr (.inr ⟨z, i, c, rfl, rfl, h1, h2, P _ _ _ _ _ _ (Ext.refl _ _) S (.str _) h3⟩)
  | _ => exact key h
section
variable {X : Cx} {W : WX} {k : Nat} {e1 e2 : Expr} {a b : DE} {pos p2 : Pos}
theorem pd_ix (ha : PED X W e1 a) (hb : PED X W e2 b) (hs : PlainIx e2 := by exact fun _ _ => rfl) : PED X W (.Subscript e1 e2 pos) (dOp fIx a b) := pe_weak (pe_ix ix_seq ha hb hs) fun _ _ _ => lift_op sim_ix
end
/-! slices -/
abbrev DO := DEnv → Kap → DX → (Option Int → Kap → Prop) → Prop
def dNo : DO := fun _ κ _ Q => Q none κ
def dPart (a : DE) : DO := fun δ κ X Q => a δ κ X fun x κ1 => ∃ i, x = .int i ∧ Q (some i) κ1
def liftO (C : Ctx) (W : WX) (d : DO) : TO := fun σ H Q => ∃ F ρ κ δ XD QD, StR C F ρ κ H ∧ RepS C F ρ δ σ ∧ d δ κ XD QD ∧ (∀ F' ρ' κ' H' b, Ext F ρ F' ρ' → StR C F' ρ' κ' H' → QD b κ' → Q b H') ∧ PostX C F ρ XD W
theorem po_weak {X : Cx} {e : Option Expr} {t t' : TO} (h : PO X e t) (w : ∀ σ H Q, t' σ H Q → t σ H Q) : PO X e t' := ⟨fun pins s σ H Q I q => h.run pins s σ H Q I (w σ H Q q)⟩
abbrev POD (X : Cx) (W : WX) (e : Option Expr) (d : DO) : Prop := PO X e (liftO (CtxOf X) W d)
theorem po_noD {X : Cx} {W : WX} : POD X W none dNo := po_weak po_none fun σ H Q ⟨F, ρ, κ, δ, XD, QD, S, R, h, P, PX⟩ => P _ _ _ _ _ (Ext.refl _ _) S h
theorem po_partD {X : Cx} {W : WX} {e : Expr} {a : DE} (ha : PED X W e a) : POD X W (some e) (dPart a) := po_weak (po_some ha) fun σ H Q ⟨F, ρ, κ, δ, XD, QD, S, R, h, P, PX⟩ =>
  ⟨F, ρ, κ, δ, XD, _, S, R, h, fun F1 ρ1 κ1 H1 x v e1 S1 R1 ⟨i, hx, h1⟩ => by
    subst hx
    cases R1
    exact ⟨i, rfl, P _ _ _ _ _ e1 S1 h1⟩, PX⟩
def cutD (xs : List D) (lo hi : Option Int) : List D := (xs.drop (HT.sIx xs.length 0 lo)).take (HT.sIx xs.length xs.length hi - HT.sIx xs.length 0 lo)
theorem cut_at {C : Ctx} {F : Hp} {ρ : Loc0} {xs : List D} {vs : List V} (r : RepL C F ρ xs vs) (lo hi : Option Int) : RepL C F ρ (cutD xs lo hi) (cutV vs lo hi) := by
  unfold cutD cutV
  rw [r.length]
  exact (r.drop _).take _
def fSl (m : Bool) (x : D) (lo hi : Option Int) (κ : Kap) (Q : DQ) : Prop := match x with
  | .str z => z.length ≤ sizeLine ∧ Q (.str (cutS z lo hi)) κ
  | x => match view x κ with
    | some (.lst, xs) => fNew m .lst (cutD xs lo hi) κ Q
    | _ => False
def dSl (m : Bool) (a : DE) (lo hi : DO) : DE := fun δ κ X Q => a δ κ X fun x κ1 => lo δ κ1 X fun i κ2 => hi δ κ2 X fun j κ3 => fSl m x i j κ3 Q
theorem pd_sl {X : Cx} {W : WX} {e1 : Expr} {lo hi : Option Expr} {a : DE} {dl dh : DO} {pos p2 : Pos} (m : Bool) (ha : PED X W e1 a) (hl : POD X W lo dl) (hh : POD X W hi dh) : PED X W (.Subscript e1 (.Slice lo hi none p2) pos) (dSl m a dl dh) :=
  pe_weak (pe_slice (SlR.or sl_str sl_list) ha hl hh) fun σ H Q ⟨F, ρ, κ, δ, XD, QD, S, R, h, P, PX⟩ =>
  ⟨F, ρ, κ, δ, XD, _, S, R, h, fun F1 ρ1 κ1 H1 x v e1 S1 R1 h1 => ⟨F1, ρ1, κ1, δ, XD, _, S1, R.ext e1, h1, fun F2 ρ2 κ2 H2 i e2 S2 h2 => ⟨F2, ρ2, κ2, δ, XD, _, S2, R.ext (e1.trans e2), h2, fun F3 ρ3 κ3 H3 j e3 S3 h3 => by
    have e123 := e1.trans (e2.trans e3)
    have R3 := R1.ext (e2.trans e3)
    have key : (match view x κ3 with
      | some (.lst, xs) => fNew m .lst (cutD xs i j) κ3 QD
      | _ => False) → rSlS v i j H3 Q ∨ rSlL X.K v i j H3 Q := fun h => by
      cases ex : view x κ3 with
      | none => rw [ex] at h; exact h.elim
      | some p =>
        obtain ⟨k, xs⟩ := p
        rw [ex] at h
        obtain ⟨p, vs, rfl, hk, rl⟩ := view_at S3 R3 ex
        cases k <;> first | exact h.elim | skip
        exact .inr ⟨p, vs, rfl, SqL.of hk, new_lst S3 (cut_at rl i j) h (P.ext e123)⟩
    cases x with
    | str z =>
      cases R3
      exact .inl ⟨z, rfl, h3.1, P _ _ _ _ _ _ e123 S3 (.str _) h3.2⟩
    | _ => exact key h3, PX.ext (e1.trans e2)⟩, PX.ext e1⟩, PX⟩

/-! ### built-ins -/
def fLen : DN := fun xs κ Q => match xs with
  | [.str y] => y.length ≤ sizeLine ∧ Q (.int (y.length : Nat)) κ
  | [x] => match view x κ with
    | some (.lst, xs) => Q (.int (xs.length : Nat)) κ
    | some (.tup, xs) => Q (.int (xs.length : Nat)) κ
    | some (.klst, xs) => Q (.int (xs.length : Nat)) κ
    | _ => False
  | _ => False
theorem repL1 {C : Ctx} {F : Hp} {ρ : Loc0} {x : D} {vs : List V} (r : RepL C F ρ [x] vs) : ∃ v, vs = [v] ∧ Rep C F ρ x v := by
  cases r with
  | cons h t => cases t; exact ⟨_, rfl, h⟩
theorem repL2 {C : Ctx} {F : Hp} {ρ : Loc0} {x y : D} {vs : List V} (r : RepL C F ρ [x, y] vs) : ∃ v u, vs = [v, u] ∧ Rep C F ρ x v ∧ Rep C F ρ y u := by
  cases r with
  | cons h t =>
    obtain ⟨u, rfl, hu⟩ := repL1 t
    exact ⟨_, _, rfl, h, hu⟩
theorem sim_len {C : Ctx} : SimN C fLen (fun xs H Q => ∃ x n, xs = [x] ∧ LenV C.K x H n ∧ Q (.int n) H) := by
  intro F ρ κ H xs vs QD Q S r h P
  match xs, h with
  | [x], h =>
    obtain ⟨v, rfl, rx⟩ := repL1 r
    have key : (match view x κ with
      | some (.lst, xs) => QD (.int (xs.length : Nat)) κ
      | some (.tup, xs) => QD (.int (xs.length : Nat)) κ
      | some (.klst, xs) => QD (.int (xs.length : Nat)) κ
      | _ => False) → ∃ x n, [v] = [x] ∧ LenV C.K x H n ∧ Q (.int n) H := by
      intro h
      cases ex : view x κ with
      | none => rw [ex] at h; exact h.elim
      | some p =>
        obtain ⟨k, xs⟩ := p
        rw [ex] at h
        obtain ⟨p, vs, rfl, hk, rl⟩ := view_at S rx ex
        have l := rl.length
        cases k <;> first | exact h.elim | skip
        · exact ⟨_, _, rfl, .inl ⟨vs, SqL.of hk, rfl⟩, P _ _ _ _ _ _ (Ext.refl _ _) S (.int _) (by rw [← l]; exact h)⟩
        · exact ⟨_, _, rfl, .inr ⟨vs, hk, rfl⟩, P _ _ _ _ _ _ (Ext.refl _ _) S (.int _) (by rw [← l]; exact h)⟩
        · exact ⟨_, _, rfl, .inl ⟨vs, hk, rfl⟩, P _ _ _ _ _ _ (Ext.refl _ _) S (.int _) (by rw [← l]; exact h)⟩
    cases x with
    | str y => cases rx; exact ⟨_, _, rfl, ⟨h.1, rfl⟩, P _ _ _ _ _ _ (Ext.refl _ _) S (.int _) h.2⟩
    | _ => exact key h
  | x :: y :: r, h => exfalso; cases x <;> exact h
def fAbs : DN := fun xs κ Q => match xs with
  | [.int i] => Q (.int (if i < 0 then -i else i)) κ
  | _ => False
theorem sim_abs {C : Ctx} : SimN C fAbs (fun xs H Q => ∃ i, xs = [.int i] ∧ Q (.int (if i < 0 then -i else i)) H) := by
  intro F ρ κ H xs vs QD Q S r h P
  match xs, h with
  | [.int i], h =>
    obtain ⟨v, rfl, rx⟩ := repL1 r
    cases rx
    exact ⟨i, rfl, P _ _ _ _ _ _ (Ext.refl _ _) S (.int _) h⟩
def fMax2 : DN := fun xs κ Q => match xs with
  | [.int i, .int j] => Q (.int (if j > i then j else i)) κ
  | _ => False
def fMin2 : DN := fun xs κ Q => match xs with
  | [.int i, .int j] => Q (.int (if j < i then j else i)) κ
  | _ => False
theorem sim_max2 {C : Ctx} : SimN C fMax2 (fun xs H Q => ∃ i j, xs = [.int i, .int j] ∧ Q (.int (if j > i then j else i)) H) := by
  intro F ρ κ H xs vs QD Q S r h P
  match xs, h with
  | [.int i, .int j], h =>
    obtain ⟨v, u, rfl, rx, ry⟩ := repL2 r
    cases rx; cases ry
    exact ⟨i, j, rfl, P _ _ _ _ _ _ (Ext.refl _ _) S (.int _) h⟩
theorem sim_min2 {C : Ctx} : SimN C fMin2 (fun xs H Q => ∃ i j, xs = [.int i, .int j] ∧ Q (.int (if j < i then j else i)) H) := by
  intro F ρ κ H xs vs QD Q S r h P
  match xs, h with
  | [.int i, .int j], h =>
    obtain ⟨v, u, rfl, rx, ry⟩ := repL2 r
    cases rx; cases ry
    exact ⟨i, j, rfl, P _ _ _ _ _ _ (Ext.refl _ _) S (.int _) h⟩
/-- str(x): of a number, of a text -/
def fStr : DN := fun xs κ Q => match xs with
  | [.int i] => i.natAbs.log2 < 1920 ∧ Q (.str (toString i)) κ
  | [.str y] => Q (.str y) κ
  | _ => False
theorem sim_str {C : Ctx} : SimN C fStr (fun xs H Q => (∃ i, xs = [.int i] ∧ i.natAbs.log2 < 1920 ∧ Q (.str (toString i)) H) ∨ ∃ a, xs = [.str a] ∧ Q (.str a) H) := by
  intro F ρ κ H xs vs QD Q S r h P
  match xs, h with
  | [.int i], h =>
    obtain ⟨v, rfl, rx⟩ := repL1 r
    cases rx
    exact .inl ⟨i, rfl, h.1, P _ _ _ _ _ _ (Ext.refl _ _) S (.str _) h.2⟩
  | [.str i], h =>
    obtain ⟨v, rfl, rx⟩ := repL1 r
    cases rx
    exact .inr ⟨i, rfl, P _ _ _ _ _ _ (Ext.refl _ _) S (.str _) h⟩
/-- int(x): of a number, of a truth -/
def fInt : DN := fun xs κ Q => match xs with
  | [.int i] => Q (.int i) κ
  | [.bl b] => Q (.int (if b then 1 else 0)) κ
  | _ => False
theorem sim_int {C : Ctx} : SimN C fInt (fun xs H Q => (∃ i, xs = [.int i] ∧ Q (.int i) H) ∨ ∃ k, xs = [.bl k] ∧ Q (.int (if k then 1 else 0)) H) := by
  intro F ρ κ H xs vs QD Q S r h P
  match xs, h with
  | [.int i], h =>
    obtain ⟨v, rfl, rx⟩ := repL1 r
    cases rx
    exact .inl ⟨i, rfl, P _ _ _ _ _ _ (Ext.refl _ _) S (.int _) h⟩
  | [.bl i], h =>
    obtain ⟨v, rfl, rx⟩ := repL1 r
    cases rx
    exact .inr ⟨i, rfl, P _ _ _ _ _ _ (Ext.refl _ _) S (.int _) h⟩
/-- all, any of a list of truths -/
def fAllB : DN := fun xs κ Q => match xs with
  | [x] => ∃ bs : List Bool, view x κ = some (.lst, bs.map D.bl) ∧ Q (.bl (bs.all id)) κ
  | _ => False
def fAnyB : DN := fun xs κ Q => match xs with
  | [x] => ∃ bs : List Bool, view x κ = some (.lst, bs.map D.bl) ∧ Q (.bl (bs.any id)) κ
  | _ => False
theorem sim_all {C : Ctx} : SimN C fAllB (rAll C.K) := by
  intro F ρ κ H xs vs QD Q S r h P
  match xs, h with
  | [x], ⟨bs, ex, h⟩ =>
    obtain ⟨v, rfl, rx⟩ := repL1 r
    obtain ⟨p, vs, rfl, hk, rl⟩ := view_at S rx ex
    have e := rl.bls
    subst e
    exact ⟨p, bs, rfl, SqL.of hk, P _ _ _ _ _ _ (Ext.refl _ _) S (.bl _) h⟩
theorem sim_any {C : Ctx} : SimN C fAnyB (rAny C.K) := by
  intro F ρ κ H xs vs QD Q S r h P
  match xs, h with
  | [x], ⟨bs, ex, h⟩ =>
    obtain ⟨v, rfl, rx⟩ := repL1 r
    obtain ⟨p, vs, rfl, hk, rl⟩ := view_at S rx ex
    have e := rl.bls
    subst e
    exact ⟨p, bs, rfl, SqL.of hk, P _ _ _ _ _ _ (Ext.refl _ _) S (.bl _) h⟩
/-- repr of data -/
def fRepr : DN := fun xs κ Q => match xs with
  | [x] => ∃ p, Pd κ x p ∧ p.showable = true ∧ p.depth ≤ 60 ∧ p.shown.length ≤ sizeLine ∧ Q (.str p.shown) κ
  | _ => False
def rRepr (C : Ctx) : List V → Hp → VK → Prop := fun vs H Q => ∃ F ρ κ x v p, vs = [v] ∧ StR C F ρ κ H ∧ Rep C F ρ x v ∧ Pd κ x p ∧ p.showable = true ∧ p.depth ≤ 60 ∧ p.shown.length ≤ sizeLine ∧ Q (.str p.shown) H
theorem sim_repr {C : Ctx} : SimN C fRepr (rRepr C) := by
  intro F ρ κ H xs vs QD Q S r h P
  match xs, h with
  | [x], ⟨p, h1, h2, h3, h4, h5⟩ =>
    obtain ⟨v, rfl, rx⟩ := repL1 r
    exact ⟨F, ρ, κ, x, v, p, rfl, S, rx, h1, h2, h3, h4, P _ _ _ _ _ _ (Ext.refl _ _) S (.str _) h5⟩
section
variable {X : Cx} {W : WX} {k : Nat} {e : Expr} {es : List Expr} {a b : DE} {as : DA} {pos p : Pos}
theorem call_reprD (g : Good k X W) : CallR X (.builtin "repr") (rRepr (CtxOf X)) := by
  intro pins s σ H xs us Q I r ⟨F, ρ, κ, x, v, p, e, S, rx, h1, h2, h3, h4, h5⟩
  subst e
  obtain ⟨u, rfl, rv⟩ := vals1 r
  have hu : X.A.units + (p.depth + 1) < cLine := by have := g.rm.units; omega
  obtain ⟨as, hr, hn⟩ := Pd.reads I (Inv.sysm I g.sm) S h1 rx rv
  cases hr with
  | none => exact PySem.P.repr_of_none ⟨.str _, H, I.tok _, ⟨_, rfl⟩, h5⟩
  | bool b => exact PySem.P.repr_of_bool ⟨.str _, H, I.tok _, ⟨_, rfl⟩, h5⟩
  | int i t => exact PySem.P.repr_of_int (of_decide_eq_true h2) ⟨.str _, H, I.tok _, ⟨_, rfl⟩, h5⟩
  | str x t => exact PySem.P.repr_of_str ⟨.str _, H, I.tok _, ⟨_, rfl⟩, h5⟩ h4
  | list q1 q2 q3 q4 => exact repr_of_reads' (.list q1 q2 q3 q4) h2 (fun _ => hn) g.gd hu (fun _ _ e => e) (fun h' u tk hk => ⟨.str _, H, I.kept hk, ⟨_, rfl⟩, h5⟩) h4
  | tuple q1 q2 q3 q4 => exact repr_of_reads' (.tuple q1 q2 q3 q4) h2 (fun _ => hn) g.gd hu (fun _ _ e => e) (fun h' u tk hk => ⟨.str _, H, I.kept hk, ⟨_, rfl⟩, h5⟩) h4
  | dict q1 q2 q3 q4 q5 => exact repr_of_reads' (.dict q1 q2 q3 q4 q5) h2 (fun _ => hn) g.gd hu (fun _ _ e => e) (fun h' u tk hk => ⟨.str _, H, I.kept hk, ⟨_, rfl⟩, h5⟩) h4
end
end DL

/-! DL: statements, loops, comprehensions. -/
namespace DL
open PySem PySem.Spec PyProof.Rows L2

/-! ### targets -/
abbrev DG := D → DEnv → Kap → DX → (DEnv → Kap → Prop) → Prop
abbrev DGs := List D → DEnv → Kap → DX → (DEnv → Kap → Prop) → Prop
def liftG (C : Ctx) (W : WX) (g : DG) : TG := fun v σ H Q => ∃ F ρ κ δ d XD QD, StR C F ρ κ H ∧ RepS C F ρ δ σ ∧ Rep C F ρ d v ∧ g d δ κ XD QD ∧ PostN C F ρ QD Q ∧ PostX C F ρ XD W
def liftGs (C : Ctx) (W : WX) (g : DGs) : TGs := fun vs σ H Q => ∃ F ρ κ δ ds XD QD, StR C F ρ κ H ∧ RepS C F ρ δ σ ∧ RepL C F ρ ds vs ∧ g ds δ κ XD QD ∧ PostN C F ρ QD Q ∧ PostX C F ρ XD W
abbrev PGD (X : Cx) (W : WX) (e : Expr) (g : DG) : Prop := PG X e (liftG (CtxOf X) W g)
abbrev PGsD (X : Cx) (W : WX) (es : List Expr) (g : DGs) : Prop := PGs X es (liftGs (CtxOf X) W g)
def gN (i : Nat) : DG := fun d δ κ _ Q => Q (δ.set i (some d)) κ
def gNilD : DGs := fun ds δ κ _ Q => ds = [] ∧ Q δ κ
def gConsD (g : DG) (r : DGs) : DGs := fun ds δ κ X Q => match ds with
  | d :: ds => g d δ κ X fun δ1 κ1 => r ds δ1 κ1 X Q
  | [] => False
def gTupD (n : Nat) (g : DGs) : DG := fun d δ κ X Q => ∃ xs, view d κ = some (.tup, xs) ∧ xs.length = n ∧ g xs δ κ X Q
section
variable {X : Cx} {W : WX} {e : Expr} {es : List Expr} {g : DG} {r : DGs} {pos : Pos}
theorem pg_weak {t t' : TG} (h : PG X e t) (w : ∀ v σ H Q, t' v σ H Q → t v σ H Q) : PG X e t' := ⟨fun pins s σ H x u Q I rx q => h.run pins s σ H x u Q I rx (w _ _ _ _ q)⟩
theorem pgs_weak {t t' : TGs} (h : PGs X es t) (w : ∀ v σ H Q, t' v σ H Q → t v σ H Q) : PGs X es t' := ⟨fun pins s σ H x u Q I rx q => h.run pins s σ H x u Q I rx (w _ _ _ _ q)⟩
theorem pg_nameD {i : Nat} {x : Str} (hN : X.N.Nodup) (hi : X.N[i]? = some x := by rfl) (hx : L2.Loc X.env.scope x := by first | exact Or.inl rfl | exact Or.inr rfl) (hf : X.fn x = true ∨ X.env.scope.names.lookup x = some .local := by first | exact .inl rfl | exact .inr rfl | assumption) : PGD X W (.Name x pos) (gN i) :=
  pg_weak (pg_name hN hi hx hf) fun v σ H Q ⟨F, ρ, κ, δ, d, XD, QD, S, R, r, h, P, PX⟩ => P _ _ _ _ _ _ (Ext.refl _ _) S (R.set r i) h
theorem pgs_nilD : PGsD X W [] gNilD := pgs_weak pgs_nil fun v σ H Q ⟨F, ρ, κ, δ, d, XD, QD, S, R, r, h, P, PX⟩ => by
  obtain ⟨rfl, h⟩ := h
  cases r
  exact ⟨rfl, P _ _ _ _ _ _ (Ext.refl _ _) S R h⟩
theorem pgs_consD (h1 : PGD X W e g) (h2 : PGsD X W es r) (hs : (assignEach (e :: es) X.env).map (·.2) = assign e X.env :: (assignEach es X.env).map (·.2) := by rfl) : PGsD X W (e :: es) (gConsD g r) := pgs_weak (pgs_cons h1 h2 hs) fun v σ H Q ⟨F, ρ, κ, δ, ds, XD, QD, S, R, rr, h, P, PX⟩ => by
  cases rr with
  | nil => exact h.elim
  | cons r1 r2 => exact ⟨_, _, rfl, F, ρ, κ, δ, _, XD, _, S, R, r1, h, fun F1 ρ1 κ1 H1 δ1 σ1 e1 S1 R1 h1 => ⟨F1, ρ1, κ1, δ1, _, XD, _, S1, R1, r2.ext e1, h1, P.ext e1, PX.ext e1⟩, PX⟩
theorem pg_tupD {n : Nat} {kk : Nat} (hc : X.calm = true) (h : PGsD X W es r) (hn : (assignEach es X.env).length = n := by rfl) (hst : (assignEach es X.env).findIdx? (·.1) = none := by rfl) : PGD X W (.Tuple es kk pos) (gTupD n r) :=
  pg_weak (pg_tup (k := kk) hc h hn hst) fun v σ H Q ⟨F, ρ, κ, δ, d, XD, QD, S, R, rr, ⟨xs, h1, h2, h3⟩, P, PX⟩ => by
  obtain ⟨a, vs, rfl, hk, rl⟩ := view_at S rr h1
  exact ⟨a, vs, rfl, hk, by rw [← rl.length]; exact h2, F, ρ, κ, δ, xs, XD, _, S, R, rl, h3, P, PX⟩
end
/-! o[i] = e : a cell's list | dict -/
def putAt (ks : List Key) (xs : List D) (k : Key) (d : D) : List Key × List D :=
  match ks.findIdx? (fun q => decide (q = k)) with
  | some j => (ks, xs.set j d)
  | none => (ks ++ [k], xs ++ [d])
def fSet : D → D → D → Kap → (Kap → Prop) → Prop := fun o i d κ Q => match o, i with
  | .cell n, .int j => match κ n with
    | some (.live .lst xs) => ∃ m, ixN xs.length j = some m ∧ Q (kset κ n (.live .lst (xs.set m d)))
    | _ => False
  | _, _ => False
def gSubD (o i : DE) (f : D → D → D → Kap → (Kap → Prop) → Prop) : DG := fun d δ κ X Q => o δ κ X fun x κ1 => i δ κ1 X fun y κ2 => f x y d κ2 fun κ3 => Q δ κ3
section
variable {X : Cx} {W : WX} {e1 e2 : Expr} {a b : DE} {pos : Pos}
theorem pg_subD (ho : PED X W e1 a) (hi : PED X W e2 b)
    (ha : ∀ v, assign (.Subscript e1 e2 pos) X.env v = (do
      let ov ← holding [v] (eval e1 X.env)
      let iv ← holding [v, ov] (eval e2 X.env)
      standAt pos
      holding [v, ov, iv] (setItem ov iv v)
      release [v, ov, iv] []) := by intro _; rfl) : PGD X W (.Subscript e1 e2 pos) (gSubD a b fSet) :=
  pg_weak (pg_sub ho hi set_list ha) fun v σ H Q ⟨F, ρ, κ, δ, d, XD, QD, S, R, rr, h, P, PX⟩ =>
  ⟨F, ρ, κ, δ, XD, _, S, R, h, fun F1 ρ1 κ1 H1 x u e1 S1 R1 h1 => ⟨F1, ρ1, κ1, δ, XD, _, S1, R.ext e1, h1, fun F2 ρ2 κ2 H2 y w e2 S2 R2 h2 => by
    have e12 := e1.trans e2
    have R1' := R1.ext e2
    cases x <;> first | (exfalso; cases y <;> exact h2) | skip
    rename_i n
    cases y <;> first | (exfalso; exact h2) | skip
    rename_i j
    cases R2
    have h2' : (match κ2 n with
      | some (.live .lst xs) => ∃ m, ixN xs.length j = some m ∧ QD δ (kset κ2 n (.live .lst (xs.set m d)))
      | _ => False) := h2
    cases ek : κ2 n with
    | none => rw [ek] at h2'; exact h2'.elim
    | some c =>
      cases c with
      | dead => rw [ek] at h2'; exact h2'.elim
      | live k xs =>
        rw [ek] at h2'
        cases k <;> first | exact h2'.elim | skip
        obtain ⟨m, h3, h4⟩ := h2'
        obtain ⟨p, vs, rfl, hr, hm, rl⟩ := cell_at S2 R1' ek
        refine ⟨p, vs, j, m, rfl, rfl, hm, by rw [← rl.length]; exact h3, ?_⟩
        exact P _ _ _ _ _ _ e12 (S2.write (k' := .lst) ek hr (fun H' q => q) (RepL.set (rr.ext e12) m rl)) (R.ext e12) h4, PX.ext e1⟩, PX⟩
end

/-! ### statements -/
def sSeq (a b : DS) : DS := fun δ κ X T => a δ κ X { T with nx := fun δ1 κ1 => b δ1 κ1 X T }
def sNil : DS := fun δ κ _ T => T.nx δ κ
def sAsg (e : DE) (g : DG) : DS := fun δ κ X T => e δ κ X fun d κ1 => g d δ κ1 X T.nx
def sExp (e : DE) : DS := fun δ κ X T => e δ κ X fun _ κ1 => T.nx δ κ1
def sRet (e : DE) : DS := fun δ κ X T => e δ κ X T.rt
def sRetN : DS := fun _ κ _ T => T.rt .non κ
def sIf (t : DT) (a b : DS) : DS := fun δ κ X T => t δ κ X fun k κ1 => if k = true then a δ κ1 X T else b δ κ1 X T
def sBrk : DS := fun δ κ _ T => T.bk δ κ
def sCon : DS := fun δ κ _ T => T.ct δ κ
def sNever : DS := fun _ _ _ _ => False
def sPar (i j : Nat) (as : DA) : DS := fun δ κ X T => as δ κ X fun ds κ1 => ∃ x y, ds = [x, y] ∧ T.nx ((δ.set i (some x)).set j (some y)) κ1
def sAug (i : Nat) (f : D2) (e : DE) : DS := fun δ κ X T => ∃ x, δ[i]? = some (some x) ∧ e δ κ X fun y κ1 => f x y κ1 fun z κ2 => T.nx (δ.set i (some z)) κ2
def sWhile (t : DT) (b : DS) : DS := fun δ κ X T => ∃ I : Nat → DEnv → Kap → Prop, (∃ m, I m δ κ) ∧ ∀ m δ κ, I m δ κ → t δ κ X fun k κ1 => if k = true then
    b δ κ1 X { nx := fun δ2 κ2 => ∃ m', m' < m ∧ I m' δ2 κ2, ct := fun δ2 κ2 => ∃ m', m' < m ∧ I m' δ2 κ2, bk := T.nx, rt := T.rt } else T.nx δ κ1
section
variable {X : Cx} {W : WX} {e e1 e2 e3 : Expr} {st : Stmt} {sts sts2 : List Stmt} {a b : DE} {as : DA} {t : DT} {u v : DS} {g : DG} {pos : Pos}
theorem sd_nil : PSsD X W [] sNil := pss_weak pss_nil fun T σ H ⟨F, ρ, κ, δ, XD, DD, S, R, h, P, PX⟩ => P.nx _ _ _ _ _ _ (Ext.refl _ _) S R h
theorem sd_cons (h1 : PSD X W st u) (h2 : PSsD X W sts v) : PSsD X W (st :: sts) (sSeq u v) := pss_weak (pss_cons h1 h2) fun T σ H ⟨F, ρ, κ, δ, XD, DD, S, R, h, P, PX⟩ =>
  ⟨F, ρ, κ, δ, XD, _, S, R, h, ⟨fun F1 ρ1 κ1 H1 δ1 σ1 e1 S1 R1 h1 => ⟨F1, ρ1, κ1, δ1, XD, DD, S1, R1, h1, P.ext e1, PX.ext e1⟩, P.rt, P.bk, P.ct⟩, PX⟩
theorem sd_one (h1 : PSD X W st u) : PSsD X W [st] u := pss_one h1
theorem sd_never {st : Stmt} : PSD X W st sNever := ps_weak ps_never fun T σ H ⟨F, ρ, κ, δ, XD, DD, S, R, h, P, PX⟩ => h.elim
theorem sd_pass : PSD X W (.Pass pos) sNil := ps_weak ps_pass fun T σ H ⟨F, ρ, κ, δ, XD, DD, S, R, h, P, PX⟩ => P.nx _ _ _ _ _ _ (Ext.refl _ _) S R h
theorem sd_doc {x j p} : PSD X W (.Expr (.Constant (.str x) j p) pos) sNil := ps_weak ps_doc fun T σ H ⟨F, ρ, κ, δ, XD, DD, S, R, h, P, PX⟩ => P.nx _ _ _ _ _ _ (Ext.refl _ _) S R h
theorem sd_brk : PSD X W (.Break pos) sBrk := ps_weak ps_break fun T σ H ⟨F, ρ, κ, δ, XD, DD, S, R, h, P, PX⟩ => P.bk _ _ _ _ _ _ (Ext.refl _ _) S R h
theorem sd_con : PSD X W (.Continue pos) sCon := ps_weak ps_continue fun T σ H ⟨F, ρ, κ, δ, XD, DD, S, R, h, P, PX⟩ => P.ct _ _ _ _ _ _ (Ext.refl _ _) S R h
theorem sd_exp (ha : PED X W e a) (hs : swapsWith e none pos.line X.env = pure false := by rfl) : PSD X W (.Expr e pos) (sExp a) := ps_weak (ps_expr ha hs) fun T σ H ⟨F, ρ, κ, δ, XD, DD, S, R, h, P, PX⟩ =>
  ⟨F, ρ, κ, δ, XD, _, S, R, h, fun F1 ρ1 κ1 H1 x v e1 S1 R1 h1 => P.nx _ _ _ _ _ _ e1 S1 (R.ext e1) h1, PX⟩
theorem sd_ret (ha : PED X W e a) : PSD X W (.Return (some e) pos) (sRet a) := ps_weak (ps_ret ha) fun T σ H ⟨F, ρ, κ, δ, XD, DD, S, R, h, P, PX⟩ => ⟨F, ρ, κ, δ, XD, _, S, R, h, P.rt, PX⟩
theorem sd_retN : PSD X W (.Return none pos) sRetN := ps_weak ps_retN fun T σ H ⟨F, ρ, κ, δ, XD, DD, S, R, h, P, PX⟩ => P.rt _ _ _ _ _ _ (Ext.refl _ _) S .non h
theorem sd_if (ht : PTD X W e t) (h1 : PSsD X W sts u) (h2 : PSsD X W sts2 v) : PSD X W (.If e sts sts2 pos) (sIf t u v) := ps_weak (ps_if ht h1 h2) fun T σ H ⟨F, ρ, κ, δ, XD, DD, S, R, h, P, PX⟩ =>
  ⟨F, ρ, κ, δ, XD, _, S, R, h, fun F1 ρ1 κ1 H1 k e1 S1 h1 => by
    cases k with
    | true => exact ⟨F1, ρ1, κ1, δ, XD, DD, S1, R.ext e1, h1, P.ext e1, PX.ext e1⟩
    | false => exact ⟨F1, ρ1, κ1, δ, XD, DD, S1, R.ext e1, h1, P.ext e1, PX.ext e1⟩, PX⟩
theorem sd_asg {tg : Expr} (ha : PED X W e a) (hg : PGD X W tg g) (hs : swapsWithSole [tg] e pos.line X.env = pure false := by rfl) (hw : swappedStores [tg] e X.env = pure none := by rfl)
    (h1 : (assignEach [tg] X.env).map (·.2) = [assign tg X.env] := by rfl) : PSD X W (.Assign [tg] e pos) (sAsg a g) := ps_weak (ps_asg ha hg hs hw h1) fun T σ H ⟨F, ρ, κ, δ, XD, DD, S, R, h, P, PX⟩ =>
  ⟨F, ρ, κ, δ, XD, _, S, R, h, fun F1 ρ1 κ1 H1 x v e1 S1 R1 h1 => ⟨F1, ρ1, κ1, δ, x, XD, _, S1, R.ext e1, R1, h1, P.nx.ext e1, PX.ext e1⟩, PX⟩
theorem sd_set (i : Nat) {x : Str} {pos' : Pos} (hN : X.N.Nodup) (ha : PED X W e a) (hi : X.N[i]? = some x := by rfl) (hx : L2.Loc X.env.scope x := by first | exact Or.inl rfl | exact Or.inr rfl) (hs : swapsWith e (some (.Name x pos')) pos.line X.env = pure false := by rfl)
    (hf : X.fn x = true ∨ X.env.scope.names.lookup x = some .local := by first | exact .inl rfl | exact .inr rfl | assumption) : PSD X W (.Assign [.Name x pos'] e pos) (sAsg a (gN i)) := ps_weak (ps_set hN hi hx ha hs hf) fun T σ H ⟨F, ρ, κ, δ, XD, DD, S, R, h, P, PX⟩ =>
  ⟨F, ρ, κ, δ, XD, _, S, R, h, fun F1 ρ1 κ1 H1 x v e1 S1 R1 h1 => P.nx _ _ _ _ _ _ e1 S1 ((R.ext e1).set R1 i) h1, PX⟩
theorem sd_par (i j : Nat) (hp : ∀ ta, PA X [e1, e2] ta → PS X st (tPar i j ta)) (ha : PAD X W [e1, e2] as) : PSD X W st (sPar i j as) := ps_weak (hp _ ha) fun T σ H ⟨F, ρ, κ, δ, XD, DD, S, R, h, P, PX⟩ =>
  ⟨F, ρ, κ, δ, XD, _, S, R, h, fun F1 ρ1 κ1 H1 ds vs e1 S1 R1 ⟨x, y, h0, h1⟩ => by
    subst h0
    obtain ⟨v, u, rfl, rx, ry⟩ := repL2 R1
    exact ⟨v, u, rfl, P.nx _ _ _ _ _ _ e1 S1 (((R.ext e1).set rx i).set ry j) h1⟩, PX⟩
theorem sd_while {k : Nat} (G : Good k X W) (ht : PTD X W e t) (hb : PSsD X W sts u) : PSD X W (.While e sts [] pos) (sWhile t u) := ps_weak (ps_while G.po ht hb) fun T σ H ⟨F, ρ, κ, δ, XD, DD, S, R, ⟨I, ⟨m0, h0⟩, h⟩, P, PX⟩ => by
  refine ⟨fun m σ H => ∃ F1 ρ1 κ1 δ1, Ext F ρ F1 ρ1 ∧ StR (CtxOf X) F1 ρ1 κ1 H ∧ RepS (CtxOf X) F1 ρ1 δ1 σ ∧ I m δ1 κ1, ⟨m0, F, ρ, κ, δ, Ext.refl _ _, S, R, h0⟩, ?_⟩
  rintro m σ H ⟨F1, ρ1, κ1, δ1, e1, S1, R1, h1⟩
  refine ⟨F1, ρ1, κ1, δ1, XD, _, S1, R1, h m δ1 κ1 h1, fun F2 ρ2 κ2 H2 k e2 S2 h2 => ?_, PX.ext e1⟩
  have e12 := e1.trans e2
  cases k with
  | true =>
    have again : PostN (CtxOf X) F2 ρ2 (fun δ2 κ2 => ∃ m', m' < m ∧ I m' δ2 κ2) (fun σ' H' => ∃ m', m' < m ∧ ∃ F1 ρ1 κ1 δ1, Ext F ρ F1 ρ1 ∧ StR (CtxOf X) F1 ρ1 κ1 H' ∧ RepS (CtxOf X) F1 ρ1 δ1 σ' ∧ I m' δ1 κ1) :=
      fun F3 ρ3 κ3 H3 δ3 σ3 e3 S3 R3 ⟨m', hm, h3⟩ => ⟨m', hm, F3, ρ3, κ3, δ3, e12.trans e3, S3, R3, h3⟩
    exact ⟨_, fun _ _ h => h, F2, ρ2, κ2, δ1, XD, _, S2, R1.ext e2, h2, ⟨again, P.rt.ext e12, P.nx.ext e12, again⟩, PX.ext e12⟩
  | false => exact P.nx _ _ _ _ _ _ e12 S2 (R1.ext e2) h2
end

/-! ### what is walked -/
/-- an iterator J of the hand layer goes through the data items while g holds of the cells -/
def ItOk (C : Ctx) (F : Hp) (ρ : Loc0) (J : It) (items : List D) (g : Kap → Prop) : Prop := ∀ F' ρ' κ' H' (i : Nat), Ext F ρ F' ρ' → StR C F' ρ' κ' H' → g κ' →
  (i = items.length → J.stop i H') ∧ ∀ d, items[i]? = some d → J.go i H' ∧ ∀ x H2, J.yld i H' x H2 → ∃ F2, Ext F' ρ' F2 ρ' ∧ StR C F2 ρ' κ' H2 ∧ Rep C F2 ρ' d x
abbrev DI := DEnv → Kap → DX → (List D → (Kap → Prop) → Kap → Prop) → Prop
def liftI (C : Ctx) (W : WX) (di : DI) : TI := fun σ H R => ∃ F ρ κ δ XD QD, StR C F ρ κ H ∧ RepS C F ρ δ σ ∧ di δ κ XD QD ∧
  (∀ F' ρ' κ' H' J items g, Ext F ρ F' ρ' → StR C F' ρ' κ' H' → ItOk C F' ρ' J items g → QD items g κ' → R J H') ∧ PostX C F ρ XD W
abbrev PID (X : Cx) (W : WX) (tg e : Expr) (di : DI) : Prop := PI X tg e (liftI (CtxOf X) W di)
theorem pi_weak {X : Cx} {tg e : Expr} {t t' : TI} (h : PI X tg e t) (w : ∀ σ H Q, t' σ H Q → t σ H Q) : PI X tg e t' := ⟨fun pins s σ H Q I q => h.run pins s σ H Q I (w σ H Q q)⟩
theorem pi_or {X : Cx} {tg e : Expr} {t t' : TI} (h : PI X tg e t) (h' : PI X tg e t') : PI X tg e (fun σ H Q => t σ H Q ∨ t' σ H Q) := ⟨fun pins s σ H Q I q => by
  rcases q with q | q
  · exact h.run pins s σ H Q I q
  · exact h'.run pins s σ H Q I q⟩
def gTrue : Kap → Prop := fun _ => True
/-- a list, a tuple, a text, a cell's list (that stays as it is) -/
def charsD (x : Str) : List D := x.cps.toList.map fun c => .str ⟨#[c]⟩
def iSeq (a : DE) : DI := fun δ κ X Q => a δ κ X fun d κ1 => match d with
  | .str x => Q (charsD x) gTrue κ1
  | .cell n => match κ1 n with
    | some (.live .lst xs) => Q xs (fun κ => κ n = some (.live .lst xs)) κ1
    | _ => False
  | d => match view d κ1 with
    | some (.lst, xs) => Q xs gTrue κ1
    | some (.klst, xs) => Q xs gTrue κ1
    | some (.tup, xs) => Q xs gTrue κ1
    | _ => False
theorem itOk_l {C : Ctx} {F : Hp} {ρ : Loc0} {k : PySem.W.Frag} {a : Addr} {vs : List V} {xs : List D} {g : Kap → Prop} (hk : ∀ F' ρ' κ' H', Ext F ρ F' ρ' → StR C F' ρ' κ' H' → g κ' → SqL C.K H' a vs) (hu : ∀ F' ρ' κ' H' ws, Ext F ρ F' ρ' → StR C F' ρ' κ' H' → g κ' → SqL C.K H' a ws → True)
    (r : RepL C F ρ xs vs) : ItOk C F ρ (Itl C.K a) xs g := fun F' ρ' κ' H' i e S hg => ⟨fun hi => ⟨vs, hk _ _ _ _ e S hg, by rw [← r.length]; omega⟩, fun d hd => by
    obtain ⟨v, hv, rv⟩ := (r.ext e).get hd
    refine ⟨⟨vs, v, hk _ _ _ _ e S hg, hv⟩, fun x H2 ⟨h1, h2⟩ => ?_⟩
    subst h1
    have ev : v = x := Option.some.inj (hv.symm.trans (h2 vs (hk _ _ _ _ e S hg)))
    subst ev
    exact ⟨F', Ext.refl _ _, S, rv⟩⟩
theorem itOk_t {C : Ctx} {F : Hp} {ρ : Loc0} {a : Addr} {vs : List V} {xs : List D} {g : Kap → Prop} (hk : ∀ F' ρ' κ' H', Ext F ρ F' ρ' → StR C F' ρ' κ' H' → g κ' → SqT C.K H' a vs)
    (r : RepL C F ρ xs vs) : ItOk C F ρ (Itt C.K a) xs g := fun F' ρ' κ' H' i e S hg => ⟨fun hi => ⟨vs, hk _ _ _ _ e S hg, by rw [← r.length]; omega⟩, fun d hd => by
    obtain ⟨v, hv, rv⟩ := (r.ext e).get hd
    refine ⟨⟨vs, v, hk _ _ _ _ e S hg, hv⟩, fun x H2 ⟨h1, h2⟩ => ?_⟩
    subst h1
    have ev : v = x := Option.some.inj (hv.symm.trans (h2 vs (hk _ _ _ _ e S hg)))
    subst ev
    exact ⟨F', Ext.refl _ _, S, rv⟩⟩
theorem itOk_s {C : Ctx} {F : Hp} {ρ : Loc0} {x : Str} : ItOk C F ρ (Its x) (charsD x) gTrue := fun F' ρ' κ' H' i e S hg => ⟨fun hi => by
    show x.cps.size ≤ i
    rw [hi]; unfold charsD; rw [List.length_map, Array.length_toList]; exact Nat.le_refl _, fun d hd => by
    unfold charsD at hd
    rw [List.getElem?_map, Option.map_eq_some_iff] at hd
    obtain ⟨c, hc, rfl⟩ := hd
    rw [Array.getElem?_toList] at hc
    have hlt : i < x.cps.size := by
      obtain ⟨h, _⟩ := Array.getElem?_eq_some_iff.mp hc
      exact h
    refine ⟨hlt, fun y H2 ⟨h1, c', h2, h3⟩ => ?_⟩
    subst h1 h3
    rw [hc] at h2
    cases h2
    exact ⟨F', Ext.refl _ _, S, .str _⟩⟩
section
variable {X : Cx} {pins : List (Addr × Obj)} {σ : L2.St} {H : Hp} {s : Shared} {R : It → Hp → Prop} {tg : Expr} {E : Value → Shared → Prop}
theorem iter_l (I : L2.Inv X pins σ H s) {p : Addr} {xs : List V} (hq : SqL X.K H p xs) (q : R (Itl X.K p) H) : wpAny (model X.prog X.w) X.A (pyIter (.ref p)) (PIE X pins σ tg R) E s := by
  obtain ⟨its, rv, pl, hz⟩ := I.list hq
  exact wpAny_pyIter_list pl.isList (pi_one (tk := s.toks) I _ (turn_list p _) ⟨_, Heap.get?_push_size _ rfl, rfl, rfl⟩ q)
theorem iter_t (I : L2.Inv X pins σ H s) {p : Addr} {xs : List V} (hq : SqT X.K H p xs) (q : R (Itt X.K p) H) : wpAny (model X.prog X.w) X.A (pyIter (.ref p)) (PIE X pins σ tg R) E s := by
  obtain ⟨its, rv, pl, hz⟩ := I.tuple hq
  exact wpAny_pyIter_tuple (show s.heap.IsTuple p its.toArray from pl) (pi_one (tk := s.toks) I _ (turn_tuple p _) ⟨_, Heap.get?_push_size _ rfl, rfl, rfl⟩ q)
theorem iter_s (I : L2.Inv X pins σ H s) {x : Str} {t : Tok} (q : R (Its x) H) : wpAny (model X.prog X.w) X.A (pyIter (.str x t)) (PIE X pins σ tg R) E s := by
  cases ha : x.cps.all (· < 128)
  · exact wpAny_pyIter_wide ha (pi_one (tk := s.toks) I _ (turn_str _ x t "str_iterator" (.inr rfl)) ⟨_, Heap.get?_push_size _ rfl, rfl, rfl⟩ q)
  · exact wpAny_pyIter_ascii ha (pi_one (tk := s.toks) I _ (turn_str _ x t "str_ascii_iterator" (.inl rfl)) ⟨_, Heap.get?_push_size _ rfl, rfl, rfl⟩ q)
end
/-- a value that can be walked, as an iterator -/
def ItV (K : PySem.W.Frag) (v : V) (H : Hp) (R : It → Hp → Prop) : Prop := (∃ x, v = .str x ∧ R (Its x) H) ∨ (∃ p xs, v = .ref p ∧ SqL K H p xs ∧ R (Itl K p) H) ∨ ∃ p xs, v = .ref p ∧ SqT K H p xs ∧ R (Itt K p) H
theorem pi_val {X : Cx} {tg e : Expr} {te : TE} (he : PE X e te) : PI X tg e (fun σ H R => te σ H fun v H1 => ItV X.K v H1 R) := by
  refine ⟨fun pins s σ H R I h => thn (he.run pins s σ H _ I h) fun u s1 ⟨v, H1, I1, r1, q⟩ => ?_⟩
  rcases q with ⟨x, rfl, q⟩ | ⟨p, xs, rfl, hq, q⟩ | ⟨p, xs, rfl, hq, q⟩
  · obtain ⟨t, rfl⟩ := r1
    exact iter_s I1 q
  · cases r1
    exact iter_l I1 hq q
  · cases r1
    exact iter_t I1 hq q
theorem pi_seqD {X : Cx} {W : WX} {tg e : Expr} {a : DE} (ha : PED X W e a) : PID X W tg e (iSeq a) := by
  refine pi_weak (pi_val ha) fun σ H Q ⟨F, ρ, κ, δ, XD, QD, S, R, h, P, PX⟩ => ⟨F, ρ, κ, δ, XD, _, S, R, h, fun F1 ρ1 κ1 H1 d v e1 S1 R1 h1 => ?_, PX⟩
  cases d with
  | str x => cases R1; exact .inl ⟨x, rfl, P _ _ _ _ _ _ _ e1 S1 itOk_s h1⟩
  | cell n =>
    have h1' : (match κ1 n with
      | some (.live .lst xs) => QD xs (fun κ => κ n = some (.live .lst xs)) κ1
      | _ => False) := h1
    cases ek : κ1 n with
    | none => rw [ek] at h1'; exact h1'.elim
    | some c =>
      cases c with
      | dead => rw [ek] at h1'; exact h1'.elim
      | live k xs =>
        rw [ek] at h1'
        cases k <;> first | exact h1'.elim | skip
        obtain ⟨p, vs, rfl, hr, hm, rl⟩ := cell_at S1 R1 ek
        refine .inr (.inl ⟨p, vs, rfl, SqL.of hm, P _ _ _ _ _ _ _ e1 S1 ?_ h1'⟩)
        intro F2 ρ2 κ2 H2 i e2 S2 hg
        obtain ⟨p2, vs2, r2, _, hm2, rl2⟩ := S2.live n _ _ hg
        rw [e2.r _ _ hr] at r2
        cases r2
        refine ⟨fun hi => ⟨vs2, SqL.of hm2, by rw [← rl2.length]; omega⟩, fun d hd => ?_⟩
        obtain ⟨w, hv, rv⟩ := rl2.get hd
        refine ⟨⟨vs2, w, SqL.of hm2, hv⟩, fun x H3 ⟨h3, h4⟩ => ?_⟩
        subst h3
        have ev : w = x := Option.some.inj (hv.symm.trans (h4 vs2 (SqL.of hm2)))
        subst ev
        exact ⟨F2, Ext.refl _ _, S2, rv⟩
  | node k xs =>
    cases R1 with
    | @node _ _ a vs hh rr =>
      cases k <;> first | exact h1.elim | skip
      · exact .inr (.inl ⟨a, vs, rfl, SqL.of (S1.sub _ _ hh), P _ _ _ _ _ _ _ e1 S1 (itOk_l (k := X.K) (fun F' ρ' κ' H' e S _ => SqL.of (S.sub _ _ (e.f _ _ hh))) (fun _ _ _ _ _ _ _ _ _ => trivial) rr) h1⟩)
      · exact .inr (.inr ⟨a, vs, rfl, sqt_ext S1.sub hh, P _ _ _ _ _ _ _ e1 S1 (itOk_t (fun F' ρ' κ' H' e S _ => sqt_ext S.sub (sqt_ext e.f hh)) rr) h1⟩)
      · exact .inr (.inl ⟨a, vs, rfl, sql_ext S1.sub hh, P _ _ _ _ _ _ _ e1 S1 (itOk_l (k := X.K) (fun F' ρ' κ' H' e S _ => sql_ext S.sub (sql_ext e.f hh)) (fun _ _ _ _ _ _ _ _ _ => trivial) rr) h1⟩)
  | _ => exact h1.elim
/-- range(n), range(a, b) -/
def rangeD (lo : Int) (n : Nat) : List D := (List.range n).map fun i => D.int (lo + (i : Nat))
def iRange1 (as : DA) : DI := fun δ κ X Q => as δ κ X fun xs κ1 => match xs with
  | [.int j] => -(2 ^ 62) ≤ j ∧ j < 2 ^ 62 ∧ Q (rangeD 0 j.toNat) gTrue κ1
  | _ => False
def iRange2 (as : DA) : DI := fun δ κ X Q => as δ κ X fun xs κ1 => match xs with
  | [.int i, .int j] => (-(2 ^ 62) ≤ i ∧ i < 2 ^ 62 ∧ -(2 ^ 62) ≤ j ∧ j < 2 ^ 62) ∧ Q (rangeD i (j - i).toNat) gTrue κ1
  | _ => False
theorem itOk_r {C : Ctx} {F : Hp} {ρ : Loc0} {lo : Int} {n : Nat} : ItOk C F ρ (Itr lo n) (rangeD lo n) gTrue := fun F' ρ' κ' H' i e S hg => by
  unfold rangeD
  refine ⟨fun hi => by show n ≤ i; rw [hi, List.length_map, List.length_range]; exact Nat.le_refl _, fun d hd => ?_⟩
  rw [List.getElem?_map, Option.map_eq_some_iff] at hd
  obtain ⟨j, hj, rfl⟩ := hd
  obtain ⟨h1, h2⟩ := List.getElem?_eq_some_iff.mp hj
  rw [List.length_range] at h1
  rw [List.getElem_range] at h2
  subst h2
  refine ⟨h1, fun x H2 ⟨h3, h4⟩ => ?_⟩
  subst h3 h4
  exact ⟨F', Ext.refl _ _, S, .int _⟩
section
variable {X : Cx} {W : WX} {tg e1 e2 : Expr} {as : DA} {p pos : Pos}
theorem pi_range1D (hm : X.mg "range" = none) (ha : PAD X W [e1] as) (hg : Gl X "range" := by rfl) (hs : starEach [e1] X.env = [(false, eval e1 X.env)] := by rfl) : PID X W tg (.Call (.Name "range" p) [e1] [] pos) (iRange1 as) :=
  pi_weak (pi_range1 hg hm ha hs) fun σ H Q ⟨F, ρ, κ, δ, XD, QD, S, R, h, P, PX⟩ => ⟨F, ρ, κ, δ, XD, _, S, R, h, fun F1 ρ1 κ1 H1 xs vs e1 S1 R1 h1 => by
    match xs, h1 with
    | [.int j], h1 =>
      obtain ⟨v, rfl, r⟩ := repL1 R1
      cases r
      exact ⟨j, rfl, h1.1, h1.2.1, P _ _ _ _ _ _ _ e1 S1 itOk_r h1.2.2⟩, PX⟩
theorem pi_range2D (hm : X.mg "range" = none) (ha : PAD X W [e1, e2] as) (hg : Gl X "range" := by rfl) (hs : starEach [e1, e2] X.env = [(false, eval e1 X.env), (false, eval e2 X.env)] := by rfl) (hs2 : starEach [e2] X.env = [(false, eval e2 X.env)] := by rfl) : PID X W tg (.Call (.Name "range" p) [e1, e2] [] pos) (iRange2 as) :=
  pi_weak (pi_range2 hg hm ha hs hs2) fun σ H Q ⟨F, ρ, κ, δ, XD, QD, S, R, h, P, PX⟩ => ⟨F, ρ, κ, δ, XD, _, S, R, h, fun F1 ρ1 κ1 H1 xs vs e1 S1 R1 h1 => by
    match xs, h1 with
    | [.int i, .int j], h1 =>
      obtain ⟨v, u, rfl, r, r'⟩ := repL2 R1
      cases r; cases r'
      exact ⟨i, j, rfl, h1.1, P _ _ _ _ _ _ _ e1 S1 itOk_r h1.2⟩, PX⟩
end

/-! ### for -/
def dLoop (g : DG) (b : DS) (gd : Kap → Prop) (X : DX) (T : DEnds) : List D → DEnv → Kap → Prop
  | [], δ, κ => gd κ ∧ T.nx δ κ
  | d :: ds, δ, κ => gd κ ∧ g d δ κ X fun δ1 κ1 => b δ1 κ1 X { nx := dLoop g b gd X T ds, ct := dLoop g b gd X T ds, bk := T.nx, rt := T.rt }
def sFor (it : DI) (g : DG) (b : DS) : DS := fun δ κ X T => it δ κ X fun items gd κ1 => dLoop g b gd X T items δ κ1
theorem dLoop_gd {g : DG} {b : DS} {gd : Kap → Prop} {X : DX} {T : DEnds} {ds : List D} {δ : DEnv} {κ : Kap} (h : dLoop g b gd X T ds δ κ) : gd κ := by
  cases ds with
  | nil => exact h.1
  | cons d ds => exact h.1
section
variable {X : Cx} {W : WX} {e : Expr} {tg : Expr} {sts : List Stmt} {it : DI} {g : DG} {b : DS} {pos : Pos} {k : Nat}
theorem sd_for (G : Good k X W) (hi : PID X W tg e it) (hg : PGD X W tg g) (hb : PSsD X W sts b) (hs : ∀ x, foldedSetIterable e X.env x = pure x := by intro _; rfl) : PSD X W (.For tg e sts [] pos) (sFor it g b) :=
  ps_weak (ps_for G.po G.calm hi hg hb hs) fun T σ H ⟨F, ρ, κ, δ, XD, DD, S, R, h, P, PX⟩ => by
  refine ⟨F, ρ, κ, δ, XD, _, S, R, h, fun F1 ρ1 κ1 H1 J items gd e1 S1 hJ h1 => ?_, PX⟩
  refine ⟨fun i m σ H => ∃ F2 ρ2 κ2 δ2, Ext F1 ρ1 F2 ρ2 ∧ StR (CtxOf X) F2 ρ2 κ2 H ∧ RepS (CtxOf X) F2 ρ2 δ2 σ ∧ i ≤ items.length ∧ m = items.length - i ∧ dLoop g b gd XD DD (items.drop i) δ2 κ2, ⟨_, F1, ρ1, κ1, δ, Ext.refl _ _, S1, R.ext e1, Nat.zero_le _, rfl, h1⟩, ?_⟩
  rintro i m σ H ⟨F2, ρ2, κ2, δ2, e2, S2, R2, hi, rfl, h2⟩
  obtain ⟨q1, q2⟩ := hJ F2 ρ2 κ2 H i e2 S2 (dLoop_gd h2)
  have e12 := e1.trans e2
  by_cases hlt : i < items.length
  · have hd : items[i]? = some items[i] := List.getElem?_eq_getElem hlt
    obtain ⟨q3, q4⟩ := q2 _ hd
    rw [List.drop_eq_getElem_cons hlt] at h2
    refine .inr ⟨q3, _, fun _ _ h => h, fun x H3 hy => ?_⟩
    obtain ⟨F3, e3, S3, R3⟩ := q4 x H3 hy
    have again : PostN (CtxOf X) F3 ρ2 (dLoop g b gd XD DD (items.drop (i + 1))) (fun σ' H' => ∃ m', m' < items.length - i ∧ ∃ F2 ρ2 κ2 δ2, Ext F1 ρ1 F2 ρ2 ∧ StR (CtxOf X) F2 ρ2 κ2 H' ∧ RepS (CtxOf X) F2 ρ2 δ2 σ' ∧ i + 1 ≤ items.length ∧ m' = items.length - (i + 1) ∧ dLoop g b gd XD DD (items.drop (i + 1)) δ2 κ2) :=
      fun F4 ρ4 κ4 H4 δ4 σ4 e4 S4 R4 h4 => ⟨_, by omega, F4, ρ4, κ4, δ4, e2.trans (e3.trans e4), S4, R4, hlt, rfl, h4⟩
    exact ⟨F3, ρ2, κ2, δ2, _, XD, _, S3, R2.ext e3, R3, h2.2, fun F4 ρ4 κ4 H4 δ4 σ4 e4 S4 R4 h4 => ⟨F4, ρ4, κ4, δ4, XD, _, S4, R4, h4, ⟨again.ext e4, P.rt.ext (e12.trans (e3.trans e4)), P.nx.ext (e12.trans (e3.trans e4)), again.ext e4⟩, PX.ext (e12.trans (e3.trans e4))⟩, PX.ext (e12.trans e3)⟩
  · have e : i = items.length := by omega
    subst e
    rw [List.drop_length] at h2
    exact .inl ⟨q1 rfl, P.nx _ _ _ _ _ _ e12 S2 R2 h2.2⟩
end

/-! ### list comprehensions -/
/-- the names that a comprehension's target binds: one (inl), or those of a tuple -/
abbrev TN := Sum Nat (List Nat)
def bindL : List Nat → List D → DEnv → Option DEnv
  | [], [], δ => some δ
  | i :: is, d :: ds, δ => bindL is ds (δ.set i (some d))
  | _, _, _ => none
def bindT (t : TN) (d : D) (δ : DEnv) (κ : Kap) : Option DEnv := match t with
  | .inl i => some (δ.set i (some d))
  | .inr is => match view d κ with
    | some (.tup, xs) => bindL is xs δ
    | _ => none
def gvL : List Nat → TGs
  | [] => gNil
  | i :: is => gCons (gName i) (gvL is)
def gvT (K : PySem.W.Frag) : TN → TG
  | .inl i => gName i
  | .inr is => gTup K is.length (gvL is)
theorem wipe_set {σ : L2.St} {x : Option V} {i : Nat} : ∀ {vs : List Nat}, i ∈ vs → L2.wipe (σ.set i x) vs = L2.wipe σ vs
  | v :: vs, h => by
    unfold L2.wipe
    by_cases hi : i ∈ vs
    · rw [wipe_set hi]
    · have hv : i = v := by
        rcases List.mem_cons.mp h with e | e
        · exact e
        · exact absurd e hi
      subst hv
      have key : ∀ (vs : List Nat) (σ : L2.St), i ∉ vs → L2.wipe (σ.set i x) vs = (L2.wipe σ vs).set i x := by
        intro vs
        induction vs with
        | nil => intro σ _; rfl
        | cons w vs ih =>
          intro σ hn
          unfold L2.wipe
          rw [ih σ (fun z => hn (List.mem_cons_of_mem _ z)), List.set_comm _ _ (fun z => hn (by rw [z]; exact List.mem_cons_self))]
      rw [key vs σ hi, List.set_set]
theorem wipe_wipe {σ : L2.St} : ∀ {vs ws : List Nat}, (∀ v ∈ vs, v ∈ ws) → L2.wipe (L2.wipe σ vs) ws = L2.wipe σ ws
  | [], _, _ => rfl
  | v :: vs, ws, h => by
    show L2.wipe ((L2.wipe σ vs).set v none) ws = _
    rw [wipe_set (h v List.mem_cons_self), wipe_wipe fun w hw => h w (List.mem_cons_of_mem _ hw)]
section
variable {C : Ctx} {F : Hp} {ρ : Loc0} {κ : Kap} {H : Hp}
theorem bindL_at {vs0 : List Nat} {σ0 : L2.St} {Q : L2.St → Hp → Prop} : ∀ {is : List Nat} {ds : List D} {vs : List V} {δ δ' : DEnv} {σ : L2.St}, (∀ i ∈ is, i ∈ vs0) → bindL is ds δ = some δ' → RepS C F ρ δ σ → RepL C F ρ ds vs → L2.wipe σ vs0 = σ0 →
    (∀ σ', RepS C F ρ δ' σ' → L2.wipe σ' vs0 = σ0 → Q σ' H) → gvL is vs σ H Q
  | [], [], _, _, _, _, _, h, R, .nil, hw, hq => by cases h; exact ⟨rfl, hq _ R hw⟩
  | i :: is, d :: ds, _, _, _, _, hi, h, R, .cons r t, hw, hq => ⟨_, _, rfl, bindL_at (fun j hj => hi j (List.mem_cons_of_mem _ hj)) h (R.set r i) t (by rw [wipe_set (hi i List.mem_cons_self)]; exact hw) hq⟩
theorem bindT_at {t : TN} {d : D} {v : V} {δ δ' : DEnv} {σ : L2.St} {vs0 : List Nat} {σ0 : L2.St} {Q : L2.St → Hp → Prop} (S : StR C F ρ κ H) (hi : ∀ i ∈ (match t with | .inl i => [i] | .inr is => is), i ∈ vs0) (h : bindT t d δ κ = some δ') (R : RepS C F ρ δ σ) (r : Rep C F ρ d v) (hw : L2.wipe σ vs0 = σ0)
    (hq : ∀ σ', RepS C F ρ δ' σ' → L2.wipe σ' vs0 = σ0 → Q σ' H) : gvT C.K t v σ H Q := by
  cases t with
  | inl i =>
    cases h
    exact hq _ (R.set r i) (by rw [wipe_set (hi i List.mem_cons_self)]; exact hw)
  | inr is =>
    have h' : (match view d κ with
      | some (.tup, xs) => bindL is xs δ
      | _ => none) = some δ' := h
    cases ev : view d κ with
    | none => rw [ev] at h'; cases h'
    | some p =>
      obtain ⟨k, xs⟩ := p
      rw [ev] at h'
      cases k <;> first | (cases h'; done) | skip
      obtain ⟨a, vs, rfl, hk, rl⟩ := view_at S r ev
      have hlen : ∀ {is : List Nat} {xs : List D} {δ δ' : DEnv}, bindL is xs δ = some δ' → xs.length = is.length := by
        intro is
        induction is with
        | nil => intro xs δ δ' h; cases xs with
          | nil => rfl
          | cons => cases h
        | cons i is ih => intro xs δ δ' h; cases xs with
          | nil => cases h
          | cons x xs => exact congrArg (· + 1) (ih h)
      exact ⟨a, vs, rfl, hk, by rw [← rl.length]; exact hlen h', bindL_at hi h' R rl hw hq⟩
end
abbrev XF : DX := fun _ _ _ _ => False
abbrev WF : WX := fun _ _ _ _ => False
def lcLoop (n : Nat) (t : TN) (tt : DT) (e : DE) (gd : Kap → Prop) (vs : List Nat) (δ : DEnv) (fin : List D → Kap → Prop) : List D → List D → Kap → Prop
  | [], acc, κ => gd κ ∧ fin acc κ
  | d :: ds, acc, κ => gd κ ∧ ∃ δ1, bindT t d (dwipe δ vs) κ = some δ1 ∧ tt δ1 κ XF fun b κ2 => if b = true then e δ1 κ2 XF fun y κ3 => κ3 n = some (.live .lst acc) ∧ acc.length < sizeLine ∧ lcLoop n t tt e gd vs δ fin ds (acc ++ [y]) (kset κ3 n (.live .lst (acc ++ [y])))
      else lcLoop n t tt e gd vs δ fin ds acc κ2
def dLc (m : Bool) (it : DI) (t : TN) (tt : DT) (e : DE) (vs : List Nat) : DE := fun δ κ X Q => it δ κ X fun items gd κ1 => ∀ n, κ1 n = none →
  lcLoop n t tt e gd vs δ (fun acc κ' => κ' n = some (.live .lst acc) ∧ if m = true then Q (.cell n) κ' else Q (.lst acc) (kset κ' n .dead)) items [] (kset κ1 n (.live .lst []))
def tYesD : DT := fun _ κ _ Q => Q true κ
theorem lc_gd {n : Nat} {t : TN} {tt : DT} {e : DE} {gd : Kap → Prop} {vs : List Nat} {δ : DEnv} {fin : List D → Kap → Prop} {ds acc : List D} {κ : Kap} (h : lcLoop n t tt e gd vs δ fin ds acc κ) : gd κ := by
  cases ds with
  | nil => exact h.1
  | cons d ds => exact h.1
theorem lift_lc {C : Ctx} {W : WX} {m : Bool} {it : DI} {t : TN} {tt : DT} {e : DE} {vs : List Nat} {ttv : TT} {ev : TE} (ht : ∀ {σ H Q}, liftT C WF tt σ H Q → ttv σ H Q) (he : ∀ {σ H Q}, liftE C WF e σ H Q → ev σ H Q) (hi : ∀ i ∈ (match t with | .inl i => [i] | .inr is => is), i ∈ vs)
    {σ : L2.St} {H : Hp} {Q : VK} (h : liftE C W (dLc m it t tt e vs) σ H Q) : tLc (liftI C W it) (gvT C.K t) ttv ev vs σ H Q := by
  obtain ⟨F, ρ, κ, δ, XD, QD, S, R, h, P, PX⟩ := h
  refine ⟨F, ρ, κ, δ, XD, _, S, R, h, fun F1 ρ1 κ1 H1 J items gd e1 S1 hJ h1 D0 hD => ?_, PX⟩
  obtain ⟨n, hn⟩ := S1.fresh
  obtain ⟨ρ2, e2, hr2, S2⟩ := S1.cell (o := .lst []) (k := .lst) (vs := []) (xs := []) hD (fun _ q => q) .nil hn
  have h2 := h1 n hn
  refine ⟨fun i m H => ∃ F3 ρ3 κ3 acc, Ext F1 ρ2 F3 ρ3 ∧ StR C F3 ρ3 κ3 H ∧ i ≤ items.length ∧ m = items.length - i ∧ lcLoop n t tt e gd vs δ _ (items.drop i) acc κ3, ⟨_, F1, ρ2, _, [], Ext.refl _ _, S2, Nat.zero_le _, rfl, h2⟩, ?_⟩
  rintro i m' H ⟨F3, ρ3, κ3, acc, e3, S3, hi3, rfl, h3⟩
  have e23 := e2.trans e3
  have hr3 := e3.r _ _ hr2
  obtain ⟨q1, q2⟩ := hJ F3 ρ3 κ3 H i e23 S3 (lc_gd h3)
  by_cases hlt : i < items.length
  · have hd : items[i]? = some items[i] := List.getElem?_eq_getElem hlt
    obtain ⟨q3, q4⟩ := q2 _ hd
    rw [List.drop_eq_getElem_cons hlt] at h3
    obtain ⟨_, δ1, hb, h4⟩ := h3
    refine .inr ⟨q3, _, fun _ h => h, fun x H4 hy => ?_⟩
    obtain ⟨F4, e4, S4, R4⟩ := q4 x H4 hy
    have e34 := e23.trans e4
    refine bindT_at (σ0 := L2.wipe σ vs) S4 hi hb ((R.ext (e1.trans e34)).wipe vs) R4 (wipe_wipe fun _ h => h) fun σ5 R5 hw => ⟨hw, ht ⟨F4, ρ3, κ3, δ1, XF, _, S4, R5, h4, fun F5 ρ5 κ5 H5 b e5 S5 h5 => ?_, fun _ _ _ _ _ _ _ _ _ _ _ _ _ _ h => h.elim⟩⟩
    have e45 := e34.trans e5
    cases b with
    | true =>
      show ev σ5 H5 _
      refine he ⟨F5, ρ5, κ5, δ1, XF, _, S5, R5.ext e5, h5, fun F6 ρ6 κ6 H6 y v e6 S6 R6 ⟨h6, h7, h8⟩ => ?_, fun _ _ _ _ _ _ _ _ _ _ _ _ _ _ h => h.elim⟩
      have e36 := (e3.trans e4).trans (e5.trans e6)
      obtain ⟨a, ws, g1, g2, g3, g4⟩ := S6.live n _ _ h6
      rw [e36.r _ _ hr2] at g1
      cases g1
      have g3' : H6 D0 = some (.lst ws) := g3
      refine ⟨ws, g3', by rw [← g4.length]; exact h7, items.length - (i + 1), by omega, F6, ρ6, _, _, e36, ?_, hlt, rfl, h8⟩
      exact S6.write (k' := .lst) h6 (e36.r _ _ hr2) (fun _ q => q) (g4.append (.cons R6 .nil))
    | false =>
      show ∃ m', m' < items.length - i ∧ _
      exact ⟨items.length - (i + 1), by omega, F5, ρ5, κ5, acc, (e3.trans e4).trans e5, S5, hlt, rfl, h5⟩
  · have e : i = items.length := by omega
    subst e
    rw [List.drop_length] at h3
    obtain ⟨_, h4, h5⟩ := h3
    refine .inl ⟨q1 rfl, ?_⟩
    cases m with
    | true => exact P _ _ _ _ _ _ (e1.trans e23) S3 (.cell hr3) h5
    | false =>
      obtain ⟨F4, e4, r4, S4⟩ := S3.freeze h4 hr3
      exact P _ _ _ _ _ _ (e1.trans (e23.trans e4)) S4 r4 h5
section
variable {X : Cx} {W : WX} {elt tg iter : Expr} {ifs : List Expr} {it : DI} {tt : DT} {a : DE} {pos : Pos} {k : Nat} {scope : Scope}
abbrev PTsD (X : Cx) (W : WX) (ifs : List Expr) (dt : DT) : Prop := PTs X ifs (liftT (CtxOf X) W dt)
theorem pts_nilD : PTsD X W [] tYesD := ⟨fun pins s σ H Q I ⟨F, ρ, κ, δ, XD, QD, S, R, h, P, PX⟩ => pts_nil.run pins s σ H Q I (P _ _ _ _ _ (Ext.refl _ _) S h)⟩
theorem pts_oneD {e : Expr} (h : PTD X W e tt) : PTsD X W [e] tt := pts_one h
theorem pd_lc (m : Bool) (own : List (Str × Nat)) (t : TN) (G : Good k X W) (hi : PID X W tg iter it) (hg : ∀ (s : Shared) (H : Hp) (C : Addr) (cl : List (Str × Addr)) (fp : List Addr), PG (X.blk s H scope (compEnvC scope cl C X.env) fp) tg (gvT X.K t))
    (ht : ∀ (s : Shared) (H : Hp) (C : Addr) (cl : List (Str × Addr)) (fp : List Addr), PTsD (X.blk s H scope (compEnvC scope cl C X.env) fp) WF ifs tt) (he : ∀ (s : Shared) (H : Hp) (C : Addr) (cl : List (Str × Addr)) (fp : List Addr), PED (X.blk s H scope (compEnvC scope cl C X.env) fp) WF elt a)
    (ok : blkC X.N X.env.scope scope own = true := by kernel_rfl) (hin : ∀ i ∈ (match t with | .inl i => [i] | .inr is => is), i ∈ own.map (·.2) := by decide) (hs : ∀ x, foldedSetIterable iter X.env x = pure x := by intro _; rfl) :
    PED X W (.ListComp elt [⟨tg, iter, ifs, 0⟩] scope pos) (dLc m it t tt a (own.map (·.2))) := pe_weak (pe_lc G.calm G.nd hi (blkOk_by ok) hg ht he hs) fun _ _ _ => lift_lc id id hin
theorem sd_setLc (i : Nat) (m : Bool) (own : List (Str × Nat)) (t : TN) {y : Str} {py spos : Pos} (G : Good k X W) (hi : PID X W tg iter it) (hg : ∀ (s : Shared) (H : Hp) (C : Addr) (cl : List (Str × Addr)) (fp : List Addr), PG (X.blk s H scope (compEnvC scope cl C X.env) fp) tg (gvT X.K t))
    (ht : ∀ (s : Shared) (H : Hp) (C : Addr) (cl : List (Str × Addr)) (fp : List Addr), PTsD (X.blk s H scope (compEnvC scope cl C X.env) fp) WF ifs tt) (he : ∀ (s : Shared) (H : Hp) (C : Addr) (cl : List (Str × Addr)) (fp : List Addr), PED (X.blk s H scope (compEnvC scope cl C X.env) fp) WF elt a)
    (hsw : swapsWith (.ListComp elt [⟨tg, iter, ifs, 0⟩] scope pos) (some (.Name y py)) spos.line X.env = pure true := by exact sw_true rfl rfl rfl (by decide +kernel))
    (hy : X.N[i]? = some y := by rfl) (hyl : X.env.scope.names.lookup y = some .local := by rfl)
    (ok : blkC X.N X.env.scope scope own = true := by kernel_rfl) (hin : ∀ i ∈ (match t with | .inl i => [i] | .inr is => is), i ∈ own.map (·.2) := by decide) (hs : ∀ x, foldedSetIterable iter X.env x = pure x := by intro _; rfl) :
    PSD X W (.Assign [.Name y py] (.ListComp elt [⟨tg, iter, ifs, 0⟩] scope pos) spos) (sAsg (dLc m it t tt a (own.map (·.2))) (gN i)) :=
  ps_weak (ps_setLc G.calm G.nd hy hyl hsw hi (blkOk_by ok) hg ht he hs) fun T σ H ⟨F, ρ, κ, δ, XD, DD, S, R, h, P, PX⟩ =>
  lift_lc id id hin ⟨F, ρ, κ, δ, XD, _, S, R, h, fun F1 ρ1 κ1 H1 x v e1 S1 R1 h1 => P.nx _ _ _ _ _ _ e1 S1 ((R.ext e1).set R1 i) h1, PX⟩
end
end DL

/-! DL: defs, calls, the law's end. -/
namespace DL
open PySem PySem.Spec PyProof.Rows L2

def PostXE (C : Ctx) (F : Hp) (ρ : Loc0) (XD : Str → List D → Kap → Prop) (E : XK) : Prop := ∀ F' ρ' κ' H' c fs cls dd, Ext F ρ F' ρ' → StR C F' ρ' κ' H' → RepX C F' ρ' c fs cls dd → XD c fs κ' → E cls dd H'
/-- a def keeps a promise over data -/
structure FnG (P : Program) (w : World) (K : PySem.W.Frag) (mg : Str → Option Value) (base : Heap) (k : Nat) (f : Addr) (fd : FuncData) (ps : List Str) (sp : DSp) : Prop where
  len : ∀ ds κ XD Q, sp ds κ XD Q → ds.length = ps.length
  run : ∀ (A : Around) (outer : List Env) (s : Shared) (H : Hp) (args : Args) (us : List Value) (vs : List V) (ds : List D) (F : Hp) (ρ : Loc0) (κ : Kap) (XD : Str → List D → Kap → Prop) (QD : DQ) (Q : VK) (E : XK), Room k A → A.guards = some [] →
    Env0 P w K mg base A outer s H → BindsTo s fd args (ps.zip us) → Vals vs us → StR ⟨K, mg⟩ F ρ κ H → RepL ⟨K, mg⟩ F ρ ds vs → sp ds κ XD QD → Post ⟨K, mg⟩ F ρ QD Q → PostXE ⟨K, mg⟩ F ρ XD E →
    codeAny (model P w) A (.call (.ref f) args) (CR (L2N.CX P w) outer P w H s Q E) s
theorem FnG.mono {P : Program} {w : World} {K : PySem.W.Frag} {mg : Str → Option Value} {base : Heap} {j k : Nat} {f : Addr} {fd : FuncData} {ps : List Str} {sp : DSp} (F : FnG P w K mg base j f fd ps sp) (h : j ≤ k) : FnG P w K mg base k f fd ps sp :=
  ⟨F.len, fun A outer s H args us vs ds F0 ρ κ XD QD Q E hr => F.run A outer s H args us vs ds F0 ρ κ XD QD Q E (hr.mono h)⟩
theorem FnG.imp {P : Program} {w : World} {K : PySem.W.Frag} {mg : Str → Option Value} {base : Heap} {k : Nat} {f : Addr} {fd : FuncData} {ps : List Str} {sp sp' : DSp} (F : FnG P w K mg base k f fd ps sp) (h : ∀ ds κ X Q, sp' ds κ X Q → sp ds κ X Q) : FnG P w K mg base k f fd ps sp' :=
  ⟨fun ds κ X Q q => F.len ds κ X Q (h _ _ _ _ q), fun A outer s H args us vs ds F0 ρ κ XD QD Q E hr hg he hb hv S R hs => F.run A outer s H args us vs ds F0 ρ κ XD QD Q E hr hg he hb hv S R (h _ _ _ _ hs)⟩
/-- a def's promise, by its body -/
def startD (n : Nat) (ds : List D) : DEnv := ds.map some ++ List.replicate (n - ds.length) none
def spOf (n m : Nat) (b : DS) : DSp := fun ds κ XD Q => ds.length = m ∧ b (startD n ds) κ (fun _ c fs κ' => XD c fs κ') { nx := fun _ κ' => Q .non κ', rt := Q }
theorem repS_start {C : Ctx} {F : Hp} {ρ : Loc0} {N : List Str} {ds : List D} {vs : List V} (r : RepL C F ρ ds vs) : RepS C F ρ (startD N.length ds) (L2.start N vs) := by
  unfold startD L2.start
  refine ⟨by simp only [List.length_append, List.length_map, List.length_replicate, r.length], fun i d h => ?_⟩
  by_cases hi : i < ds.length
  · rw [List.getElem?_append_left (by rw [List.length_map]; exact hi), List.getElem?_map] at h
    rw [List.getElem?_append_left (by rw [List.length_map, ← r.length]; exact hi), List.getElem?_map]
    cases e : ds[i]? with
    | none => rw [e] at h; cases h
    | some d' =>
      rw [e] at h
      cases h
      obtain ⟨v, h1, h2⟩ := r.get e
      exact ⟨v, by rw [h1]; rfl, h2⟩
  · rw [List.getElem?_append_right (by rw [List.length_map]; omega), List.getElem?_replicate] at h
    split at h <;> cases h
abbrev cxD (P : Program) (w : World) (K : PySem.W.Frag) (mg : Str → Option Value) (base : Heap) (N : List Str) (qual : Str) (scope : Scope) (f : Addr) (cd : Value) (A : Around) (outer : List Env) (s : Shared) (H : Hp) (E : XK) : Cx :=
  cxOf (L2N.CX P w) P w K mg base N qual scope f cd A outer s H E
abbrev wxE (E : XK) : WX := fun cls d _ H => E cls d H
section
variable {P : Program} {w : World} {K : PySem.W.Frag} {mg : Str → Option Value} {base : Heap}
/-- THE RULE for a def -/
theorem Fn_ok {x qual : Str} {st : Stmt} {f : Addr} {fd : FuncData} {N ps : List Str} {k : Nat} {b : DS} (F : Fun K x qual st f fd) (S : FnScope N ps (defScope st)) (sm : ∃ o, base.get? sysModules = some o)
    (hbody : ∀ (cdv : Value) (A : Around) (outer : List Env) (s : Shared) (H : Hp) (E : XK), Good k (cxD P w K mg base N qual (defScope st) f cdv A outer s H E) (wxE E) → PSsD (cxD P w K mg base N qual (defScope st) f cdv A outer s H E) (wxE E) (defBody st) b) :
    FnG P w K mg base (k + 1) f fd ps (spOf N.length ps.length b) := by
  refine ⟨fun ds κ XD Q h => h.1, fun A outer s H args us vs ds F0 ρ κ XD QD Q E hr hg e0 hb rv S0 R0 hsp PQ PE => ?_⟩
  obtain ⟨oc, od, kV, doc, pm, an, cdv, ct, osl, rfl, lk, hcd⟩ := F.ex
  have hl : vs.length = ps.length := by rw [← R0.length, hsp.1]
  have KX : K.In s.heap := e0.mod.kin.keeps fun b o e => (e0.bs b o e).1
  have lim : s.heap.NoLimit := e0.mod.nolimit.keeps fun b o e => (e0.bs b o e).1
  have kinds : ∀ y ∈ ps.zip us, (defScope st).names.lookup y.1 = some .local ∨ ((defScope st).names.lookup y.1 = some .cell ∧ ((cellsFrom (s.heap.objs.size + 1) (defScope st).names []).lookup y.1).isSome = true) := fun y hy => by
    rcases S.par y.1 (List.of_mem_zip (a := y.1) (b := y.2) hy).1 with q | q
    · exact .inl q
    · exact .inr ⟨q, PySem.W.cellsFrom_some _ _ _ (.inl q)⟩
  refine codeAny_call_function hr.depth (KX _ _ lk) rfl S.co S.gen rfl (PySem.W.codeRec_of KX hcd) (hb _ _ _ _ (wpAny_newFunctionEnv_cells S.kind kinds fun env he s1 x => ?_))
  subst he
  refine ⟨lim.keeps x.toInCall.keep, codeAny_func ?_⟩
  have I := inv_start (CX := L2N.CX P w) (N := N) (qual := qual) (E := E) (f := f) (cd := cdv) S hr.hd e0 hl rv x
  have g : Good k (cxD P w K mg base N qual (defScope st) f cdv A outer s H E) (wxE E) :=
    ⟨L2N.takes_of rfl rfl rfl rfl, passes_of rfl, hr.deeper _, hg, sm, rfl, S.nd⟩
  refine wpAny_mono ((hbody cdv A outer s H E g).run [] s1 _ H ⟨fun _ H' => Q .non H', Q, fun _ _ => False, fun _ _ => False⟩ I
    ⟨F0, ρ, κ, startD N.length ds, _, _, S0, repS_start R0, hsp.2, ⟨fun F' ρ' κ' H' δ σ e S R q => PQ _ _ _ _ _ _ e S .non q, PQ, fun _ _ _ _ _ _ _ _ _ z => z.elim, fun _ _ _ _ _ _ _ _ _ z => z.elim⟩,
      fun F' ρ' κ' H' δ σ c fs cls dd e S R rx q => PE _ _ _ _ _ _ _ _ e S rx q⟩) (fun fl s' hs => ?_) fun e s' hs => hs
  cases fl with
  | ret u =>
    obtain ⟨v, σ', H', J, rv', q⟩ := hs
    exact ⟨v, H', J.os, J.bare, J.base, J.hok, rv', q⟩
  | next =>
    obtain ⟨σ', H', J, q⟩ := hs
    exact ⟨.non, H', J.os, J.bare, J.base, J.hok, rfl, q⟩
  | brk => obtain ⟨_, _, _, q⟩ := hs; exact q.elim
  | cont => obtain ⟨_, _, _, q⟩ := hs; exact q.elim
end
/-! ### calls -/
def dCall (sp : DSp) (dvs : List D) (as : DA) : DE := fun δ κ X Q => as δ κ X fun xs κ1 => sp (xs ++ dvs) κ1 (X δ) Q
section
variable {X : Cx} {W : WX} {k : Nat} {f : Addr} {fd : FuncData} {ps : List Str} {sp : DSp} {dvs : List D} {ds : List Value} {x : Str} {e : Expr} {es : List Expr} {as : DA} {p pos : Pos}
theorem run_fnG {pins : List (Addr × Obj)} {σ : L2.St} {δ : DEnv} {H : Hp} {s : Shared} {Q : VK} {us : List Value} {vs : List V} {args : Args} {xs : List D} {F : Hp} {ρ : Loc0} {κ : Kap} {XD : DX} {QD : DQ} (G : Good k X W) (F1 : FnG X.prog X.w X.K X.mg X.base k f fd ps sp) (I : L2.Inv X pins σ H s) (hb : BindsTo s fd args (ps.zip us)) (r : Vals vs us)
    (S : StR (CtxOf X) F ρ κ H) (R : RepS (CtxOf X) F ρ δ σ) (rr : RepL (CtxOf X) F ρ xs vs) (h : sp xs κ (XD δ) QD) (P : Post (CtxOf X) F ρ QD Q) (PX : PostX (CtxOf X) F ρ XD W) : wpAny (model X.prog X.w) X.A (call (.ref f) args.pos args.kw) (EP X pins σ Q) X.xe s := by
  refine wpAny_call (codeAny_mono (F1.run X.A X.stack s H args us vs xs F ρ κ _ _ Q (fun cls dd H' => W cls dd σ H') G.rm G.gd I.env0 hb r S rr h P fun F' ρ' κ' H' c fs cls dd e S' rx q => PX _ _ _ _ _ _ _ _ _ _ e S' (R.ext e) rx q) fun rs s' hq => ?_)
  cases rs with
  | error er => exact G.tk er s' (L2N.XE.of_call I (fun _ _ _ h => h) hq)
  | ok fl =>
    cases fl with
    | ret u => exact I.after hq
    | next => exact False.elim hq
    | brk => exact False.elim hq
    | cont => exact False.elim hq
theorem pd_call (G : Good k X W) (F1 : FnG X.prog X.w X.K X.mg X.base k f fd ps sp) (hm : X.mg x = some (.ref f)) (hk : PySem.W.keepIn X.K (.ref f) = true) (hb : Binds X.K fd ps ds) (hd : ∃ dv, Vals dv ds ∧ ∀ F ρ, RepL (CtxOf X) F ρ dvs dv)
    (ha : PAD X W (e :: es) as) (hg : Gl X x := by rfl) (hdb : (x == ("__debug__" : Str)) = false := by decide) (he : starEach (e :: es) X.env = (false, eval e X.env) :: starEach es X.env := by rfl) (hpl : (backTo pos (starEach es X.env)).any (·.1) = false := by rfl) :
    PED X W (.Call (.Name x p) (e :: es) [] pos) (dCall sp dvs as) := by
  refine ⟨fun pins s σ H Q I ⟨F, ρ, κ, δ, XD, QD, S, R, h, P, PX⟩ => ?_⟩
  refine wpAny_Call_Name_kw (ld_glob I hg hm ?_ hdb)
  refine PySem.W.callWith_K (h₀ := X.base) I.ok.mod.kin hk (thn (ha.run pos pins s σ H (fun vs H1 => ∃ F1 ρ1 κ1 xs, Ext F ρ F1 ρ1 ∧ StR (CtxOf X) F1 ρ1 κ1 H1 ∧ RepL (CtxOf X) F1 ρ1 xs vs ∧ sp (xs ++ dvs) κ1 (XD δ) QD) I
    ⟨F, ρ, κ, δ, XD, _, S, R, h, fun F1 ρ1 κ1 H1 xs vs e1 S1 R1 h1 => ⟨F1, ρ1, κ1, xs, e1, S1, R1, h1⟩, PX⟩) fun us s1 ⟨vs, H1, I1, r1, F2, ρ1, κ1, xs, e1, S1, R1, h1⟩ => ⟨I1.kIn, ?_⟩) he hpl
  obtain ⟨dv, v1, v2⟩ := hd
  have hl : (us ++ ds).length = ps.length := by
    rw [← F1.len _ _ _ _ h1, List.length_append, List.length_append, R1.length, Paired.length r1, (v2 F2 ρ1).length, Paired.length v1]
  exact run_fnG G F1 (args := ⟨us, []⟩) I1 (hb s1 us I1.kIn hl) (r1.append v1) S1 (R.ext e1) (R1.append (v2 _ _)) h1 (P.ext e1) (PX.ext e1)
theorem pd_call0 (G : Good k X W) (F1 : FnG X.prog X.w X.K X.mg X.base k f fd ps sp) (hm : X.mg x = some (.ref f)) (hk : PySem.W.keepIn X.K (.ref f) = true) (hb : Binds X.K fd ps ds) (hd : ∃ dv, Vals dv ds ∧ ∀ F ρ, RepL (CtxOf X) F ρ dvs dv)
    (hg : Gl X x := by rfl) (hdb : (x == ("__debug__" : Str)) = false := by decide) : PED X W (.Call (.Name x p) [] [] pos) (dCall sp dvs dNil) := by
  refine ⟨fun pins s σ H Q I ⟨F, ρ, κ, δ, XD, QD, S, R, h, P, PX⟩ => ?_⟩
  refine wpAny_Call_Name_kw (ld_glob I hg hm ?_ hdb)
  obtain ⟨dv, v1, v2⟩ := hd
  have hl : (([] : List Value) ++ ds).length = ps.length := by
    rw [← F1.len _ _ _ _ h, List.length_append, List.length_append, (v2 F ρ).length, Paired.length v1]; rfl
  exact PySem.W.callWith_K0 I.kIn hk (run_fnG G F1 (args := ⟨[], []⟩) I (hb s [] I.kIn hl) v1 S R (v2 _ _) h P PX)
end
/-- no defaults -/
theorem nodef {X : Cx} : ∃ dv, Vals dv ([] : List Value) ∧ ∀ F ρ, RepL (CtxOf X) F ρ [] dv := ⟨[], .nil, fun _ _ => .nil⟩

/-! ### the law's end -/
theorem repL_script {C : Ctx} {F : Hp} {ρ : Loc0} {a : Addr} {ns : List Int} (h : SqL C.K F a (ns.map V.int)) : RepL C F ρ [.node .klst (ns.map D.int)] [.ref a] :=
  .cons (.node (k := .klst) h RepL.ofInts) .nil
theorem law_end {P : Program} {w : World} {K : PySem.W.Frag} {mg mb : Str → Option Value} {k : Nat} {fa a : Addr} {fd : FuncData} {x : Str} {sp : DSp} {s1 : Shared} {vs : List Value} {ns : List Int}
    (KX : K.In s1.heap) (hns : s1.heap.Ns mainGlobals mg) (hb : s1.heap.Ns builtinsNs mb) (hbb : ∀ x : Str, x ≠ "__name__" → mb x = bootBuiltins x) (hlim : s1.heap.NoLimit) (hsm : ∃ mm, s1.heap.Ns sysModules mm) (hg : s1.gens = #[])
    (ha : s1.heap.get? a = some { cls := .type "list", data := .seq vs.toArray }) (hi : IntsAre vs ns) (hl : ns.length ≤ sizeLine) (hr : Room k callerA)
    (F : ∀ base : Heap, K.In base → base.Ns mainGlobals mg → (∃ o, base.get? sysModules = some o) → FnG P w K mg base k fa fd [x] sp) (hbind : ∀ (s : Shared) (u : Value), BindsTo s fd ⟨[u], []⟩ [(x, u)])
    (hsp : sp [.node .klst (ns.map D.int)] (fun _ => none) (fun _ _ _ => False) (fun d _ => d = .bl true)) :
    codeAny (model P w) callerA (.call (.ref fa) ⟨[.ref a], []⟩) (fun r s' => r = .ok (.ret (.bool true)) ∧ OldK s1.heap s'.heap ∧ s'.os = s1.os ∧ AllBare s'.gens) s1 := by
  have rv := vals_ints hi
  have lenV := hi.length
  -- an abstract heap in which at most the script is tracked
  have go : ∀ H : Hp, (∀ b u, H b = some u → b = a ∧ ∃ o xs, u = .frz o (.lst xs) ∧ s1.heap.get? a = some o) → SqL K H a (ns.map V.int) → HOk P w H s1.heap → (∀ u, H a = some u → K.lookup a = none) →
      codeAny (model P w) callerA (.call (.ref fa) ⟨[.ref a], []⟩) (fun r s' => r = .ok (.ret (.bool true)) ∧ OldK s1.heap s'.heap ∧ s'.os = s1.os ∧ AllBare s'.gens) s1 := by
    intro H hO hS hok hK
    have free : ∀ {b : Addr} {o : Obj}, s1.heap.get? b = some o → (∀ xs n, o.data ≠ .seq xs n) → H b = none := fun {b o} e d => by
      cases q : H b with
      | none => rfl
      | some u =>
        obtain ⟨rfl, _⟩ := hO b u q
        rw [ha] at e
        cases e
        exact absurd rfl (d _ _)
    have nsK : ∀ {b : Addr} {m : Str → Option Value}, s1.heap.Ns b m → (hidT s1.heap H).Ns b m := fun {b m} ⟨o, es, ep, e, d, r⟩ => ⟨o, es, ep, hidT_get e (free e fun xs n z => by rw [d] at z; cases z), d, r⟩
    have kin : K.In (hidT s1.heap H) := fun b o e => hidT_get (KX b o e) (by
      cases q : H b with
      | none => rfl
      | some u =>
        obtain ⟨rfl, _⟩ := hO b u q
        rw [hK u q] at e
        cases e)
    have hM : Mod K mg (hidT s1.heap H) := ⟨kin, nsK hns, ⟨mb, nsK hb, hbb⟩, let ⟨mc, h1, h2⟩ := hlim; ⟨mc, nsK h1, h2⟩⟩
    have e0 : Env0 P w K mg (hidT s1.heap H) callerA [] s1 H := ⟨rfl, hM, fun b o e => of_hidT e, Nat.le_of_eq (hidT_size _ _), trivial, fun b hb => (nomatch hb), hok, .of_eq hg⟩
    have sm : ∃ o, (hidT s1.heap H).get? sysModules = some o := by
      obtain ⟨mm, h⟩ := hsm
      obtain ⟨o, _, _, e, _⟩ := nsK h
      exact ⟨o, e⟩
    have st : StR ⟨K, mg⟩ H (fun _ => none) (fun _ => none) H := ⟨fun _ _ h => h, fun n k xs h => (nomatch h), fun n m a k xs k' xs' h => (nomatch h), fun _ _ => rfl, ⟨0, fun _ _ => rfl⟩⟩
    refine codeAny_mono ((F _ kin (nsK hns) sm).run callerA [] s1 H ⟨[.ref a], []⟩ [.ref a] [.ref a] _ H _ _ _ _ (fun v _ => v = .bl true) (fun _ _ _ => False) hr rfl e0 (hbind s1 (.ref a)) (.cons rfl .nil) st (repL_script hS) hsp
      (fun F' ρ' κ' H' d v e S r q => by subst q; cases r; rfl) (fun _ _ _ _ _ _ _ _ _ _ _ q => q.elim)) fun r s' h => ?_
    cases r with
    | error e =>
      obtain ⟨_, _, _, _, _, _, _, _, _, _, _, _, z⟩ := h
      exact z.elim
    | ok fl =>
      cases fl with
      | next => exact h.elim
      | brk => exact h.elim
      | cont => exact h.elim
      | ret u =>
        obtain ⟨v, H', os, bare, un, hok', r', q⟩ := h
        have q' : v = .bl true := q
        subst q'
        obtain rfl : u = Value.bool true := r'
        refine ⟨rfl, OldK.of_keep fun b o e => ?_, os, bare⟩
        cases q : H b with
        | none => exact un.keep b o e q (by intro z; exact (nomatch z)) (by simp)
        | some u =>
          obtain ⟨rfl, ob, xs, rfl, _⟩ := hO b u q
          have z2 := un.frzs b ob _ q
          obtain ⟨e1, _⟩ := hok b _ q
          obtain ⟨e2, _⟩ := hok' b _ z2
          rw [e] at e1
          cases e1
          exact e2
  cases hk : K.lookup a with
  | some o =>
    have e := KX a o hk
    rw [ha] at e
    cases e
    exact go (fun _ => none) (fun b u z => (nomatch z)) (.inr ⟨_, vs.toArray, _, hk, rfl, rfl, rfl, by rw [List.size_toArray, lenV]; exact hl, by simpa using rv⟩) (fun b u z => (nomatch z)) fun u z => (nomatch z)
  | none =>
    refine go (fun b => if b = a then some (.frz { cls := .type "list", data := .seq vs.toArray } (.lst (ns.map V.int))) else none) (fun b u z => ?_) (.inl (.inr ⟨{ cls := .type "list", data := .seq vs.toArray }, if_pos rfl⟩)) (fun b u z => ?_) fun _ _ => hk
    · by_cases hb : b = a
      · have z' := (if_pos hb).symm.trans z
        cases z'
        exact ⟨hb, _, _, rfl, ha⟩
      · have z' := (if_neg hb).symm.trans z
        cases z'
    · by_cases hb : b = a
      · have z' := (if_pos hb).symm.trans z
        cases z'
        subst hb
        exact ⟨ha, by rw [List.length_map]; exact hl, vs, _, rv, ha⟩
      · have z' := (if_neg hb).symm.trans z
        cases z'
theorem seer_sys {h : Heap} (x : h.NoSeer) : ∃ mm, h.Ns sysModules mm := let ⟨mm, e, _⟩ := x.mods; ⟨mm, e⟩
theorem walkD {l : PySem.W.OpenLaw} {n k : Nat} {q : Program} {loose : List Str} {XP : (Str → Option Value) → Heap → Prop} {YP : World → Heap → Prop} {d : DefRec} {K : Params → PySem.W.Frag} {sp : DSp} {x : Str}
    (hn : l.most = some n) (hn2 : n ≤ sizeLine) (hdf : d.params.defaults = []) (hr : Room k callerA) (himp : importsNone q = true) (hY : ∀ (w : World) (h : Heap), YP w h → (K w.params).In h)
    (F : ∀ (w : World) (mg : Str → Option Value) (fa : Addr) (h : Heap), (K w.params).In h → h.Ns mainGlobals mg → mg d.name = some (.ref fa) →
      ∃ fd : FuncData, (∀ (s : Shared) (u : Value), BindsTo s fd ⟨[u], []⟩ [(x, u)]) ∧
        ∀ base : Heap, (K w.params).In base → base.Ns mainGlobals mg → (∃ o, base.get? sysModules = some o) → FnG l.prog w (K w.params) mg base k fa fd [x] sp)
    (hsp : ∀ ns : List Int, ns.length ≤ n → sp [.node .klst (ns.map D.int)] (fun _ => none) (fun _ _ _ => False) (fun d _ => d = .bl true)) :
    PySem.W.WalkO q loose XP YP l.row.toRowW d [] (fun f vs => PySem.call f vs) := by
  refine Att.attach_call hn hdf fun w s0 s1 mg mb fa o pm cd doc a vs ns G Y ho hd hcd hmg hobj hints hlen hg => ?_
  have KX := hY w _ Y
  obtain ⟨fd, hb, hF⟩ := F w mg fa _ KX G.T.g hmg
  exact law_end KX G.T.g G.T.b G.T.builtins G.T.nolimit (seer_sys (G.T.seer himp)) hg hobj hints (Nat.le_trans hlen hn2) hr hF hb (hsp ns hlen)
end DL

/-! DL: isinstance, methods of texts and lists, own exceptions made and raised. -/
namespace DL
open PySem PySem.Spec PyProof.Rows L2

/-! ### types -/
/-- a thing's type: built-in, a class of objects, a class of exceptions -/
inductive TyK where
  | b (n : String)
  | o (c : Str)
  | e (c : Str)
  deriving DecidableEq
/-- a class asked for: built-in, own -/
inductive CK where
  | b (n : String)
  | c (c : Str)
  deriving DecidableEq
def kdTy : Kd → Option TyK
  | .lst => some (.b "list")
  | .klst => some (.b "list")
  | .tup => some (.b "tuple")
  | .dct _ => some (.b "dict")
  | .obj c _ => some (.o c)
  | .exc c _ => some (.e c)
  | .cau .. => none
def tyK (x : D) (κ : Kap) : Option TyK := match x with
  | .non => some (.b "NoneType")
  | .bl _ => some (.b "bool")
  | .int _ => some (.b "int")
  | .str _ => some (.b "str")
  | x => (view x κ).bind fun p => kdTy p.1
def clsK : D → Option CK
  | .ty n => some (.b n)
  | .glb c => some (.c c)
  | _ => none
def TyVal (mg : Str → Option Value) : TyK → Value → Prop
  | .b n, v => v = .type n
  | .o c, v => ∃ ca, mg c = some (.ref ca) ∧ v = .ref ca
  | .e c, v => ∃ ca, mg c = some (.ref ca) ∧ v = .ref ca
def CkVal (mg : Str → Option Value) : CK → Value → Prop
  | .b n, v => v = .type n
  | .c c, v => ∃ ca, mg c = some (.ref ca) ∧ v = .ref ca
/-- what the written part says of an instance's class, for isinstance -/
structure InsT (K : PySem.W.Frag) (C : Addr) : Prop where
  cl : Cls K C
  ha : PySem.W.findIn K (.ref C) "__class__" = some (some (.builtin "object.__class__"))
  hn : PySem.W.specialIn K (.builtin "object.__class__") "__get__" = some (some (.builtin "getset_descriptor.__get__"))
  ht : PySem.W.takesIn K (.builtin "object.__class__") = some true
  hm : PySem.W.mroIn K C (.type "object") = some true
abbrev KTab := TyK → CK → Option Bool
/-- a table of answers of isinstance, told rightly -/
structure KitT (K : PySem.W.Frag) (mg : Str → Option Value) (kt : KTab) : Prop where
  ok : ∀ t u b, kt t u = some b → ∀ tv uv, TyVal mg t tv → CkVal mg u uv → PySem.W.kitOne K tv uv = some b
  obj : ∀ c u b, kt (.o c) u = some b → ∀ ca, mg c = some (.ref ca) → InsT K ca
  exc : ∀ c u b, kt (.e c) u = some b → ∀ ca, mg c = some (.ref ca) → L2.ExcC K ca
def ktAny (kt : KTab) (t : TyK) : List D → Option Bool
  | [] => some false
  | d :: ds => match clsK d with
    | none => none
    | some u => match kt t u with
      | some true => some true
      | some false => ktAny kt t ds
      | none => none
def fIsi (kt : KTab) : DN := fun xs κ Q => match xs with
  | [x, .node .tup (c :: cs)] => ∃ t b, tyK x κ = some t ∧ ktAny kt t (c :: cs) = some b ∧ Q (.bl b) κ
  | [x, .ty n] => ∃ t b, tyK x κ = some t ∧ kt t (.b n) = some b ∧ Q (.bl b) κ
  | [x, .glb c] => ∃ t b, tyK x κ = some t ∧ kt t (.c c) = some b ∧ Q (.bl b) κ
  | _ => False
def rIsiD (C : Ctx) (kt : KTab) : List V → Hp → VK → Prop := fun vs H Q => ∃ F ρ κ xs QD, StR C F ρ κ H ∧ RepL C F ρ xs vs ∧ fIsi kt xs κ QD ∧ Post C F ρ QD Q
theorem sim_isi {C : Ctx} {kt : KTab} : SimN C (fIsi kt) (rIsiD C kt) := fun F ρ κ H xs vs QD Q S r h P => ⟨F, ρ, κ, xs, QD, S, r, h, P⟩
section
variable {X : Cx} {W : WX} {k : Nat} {kt : KTab} {pins : List (Addr × Obj)} {σ : L2.St} {H : Hp} {s : Shared} {F : Hp} {ρ : Loc0} {κ : Kap}
theorem excK {K : PySem.W.Frag} {ca a : Addr} {o : Obj} {od : Option Obj} (E : L2.ExcC K ca) : PySem.W.KitX K (.ref a) (.ref ca) (fun h => PySem.W.InstAt h a o ca od) :=
  PySem.W.kitx_exc (by obtain ⟨cd, h, _⟩ := PySem.W.any_some E.hd; rw [h]; rfl) E.hg E.hk E.hs E.ha E.hn E.ht E.hm
/-- what isinstance wants to know of a value -/
theorem kitD (T : KitT X.K X.mg kt) (I : L2.Inv X pins σ H s) (S : StR (CtxOf X) F ρ κ H) {x : D} {v : V} {u : Value} {t : TyK} (r : Rep (CtxOf X) F ρ x v) (rv : RelV v u) (ht : tyK x κ = some t) (hk : ∃ w b, kt t w = some b) :
    ∃ tv P, TyVal X.mg t tv ∧ PySem.W.KitX X.K u tv P ∧ P s.heap ∧ u ≠ .builtin "__main__.__loader__#opaque" := by
  have base : ∀ {tv : Value}, TyX X.K H v tv → TyVal X.mg t tv → ∃ tv P, TyVal X.mg t tv ∧ PySem.W.KitX X.K u tv P ∧ P s.heap ∧ u ≠ .builtin "__main__.__loader__#opaque" := fun {tv} tx h => by
    obtain ⟨P, Z, p, hx⟩ := kit_of I rv tx
    exact ⟨tv, P, h, Z, p, hx⟩
  have key : (view x κ).bind (fun p => kdTy p.1) = some t → ∃ tv P, TyVal X.mg t tv ∧ PySem.W.KitX X.K u tv P ∧ P s.heap ∧ u ≠ .builtin "__main__.__loader__#opaque" := by
    intro h
    cases ev : view x κ with
    | none => rw [ev] at h; cases h
    | some p =>
      obtain ⟨kd, xs⟩ := p
      rw [ev] at h
      obtain ⟨a, vs, rfl, hk', rl⟩ := view_at S r ev
      cases kd with
      | lst => cases h; exact base (.base (.lst hk')) rfl
      | klst =>
        cases h
        rcases hk' with (h1 | ⟨o, h1⟩) | ⟨o, its, n, h1, h2, _⟩
        · exact base (.base (.lst h1)) rfl
        · exact base (.base (.frz h1)) rfl
        · exact base (.kList h1 h2) rfl
      | tup =>
        cases h
        rcases hk' with (h1 | ⟨o, h1⟩) | ⟨o, its, n, h1, h2, _⟩
        · exact base (.base (.tup h1)) rfl
        · exact base (.fTuple h1) rfl
        · exact base (.kTuple h1 h2) rfl
      | dct ks =>
        cases h
        obtain ⟨kvs, h1, _⟩ := hk'
        exact base (.base (.dK h1)) rfl
      | cau c a1 C1 dd => cases h
      | obj c ns =>
        cases h
        obtain ⟨ca, dx, fs, h0, h1, _⟩ := hk'
        obtain ⟨w, b, hw⟩ := hk
        have q := T.obj c w b hw ca h0
        exact base (.base (.ins h1 q.cl q.ha q.hn q.ht q.hm)) ⟨ca, h0, rfl⟩
      | exc c ns =>
        cases h
        obtain ⟨ca, h0, h1⟩ := hk'
        obtain ⟨w, b, hw⟩ := hk
        have q := T.exc c w b hw ca h0
        cases rv
        rcases h1 with ⟨_, _, h1⟩ | ⟨d, fs, h1, h2, _⟩
        · obtain ⟨t1, ho⟩ := exo_at I.hok h1
          exact ⟨.ref ca, _, ⟨ca, h0, rfl⟩, excK (od := none) q, ⟨ho, rfl, rfl, trivial⟩, fun z => nomatch z⟩
        · obtain ⟨t1, ho⟩ := exo_at I.hok h1
          obtain ⟨mA, ⟨od, _, _, hd, _⟩, _⟩ := exd_at I.hok h2
          exact ⟨.ref ca, _, ⟨ca, h0, rfl⟩, excK (od := some od) q, ⟨ho, rfl, rfl, hd⟩, fun z => nomatch z⟩
  cases x with
  | non => cases r; cases ht; exact base (.base .non) rfl
  | bl b => cases r; cases ht; exact base (.base (.bl b)) rfl
  | int i => cases r; cases ht; exact base (.base (.int i)) rfl
  | str y => cases r; cases ht; exact base (.base (.str y)) rfl
  | _ => exact key ht
theorem ktAny_first {t : TyK} {c : D} {cs : List D} {b : Bool} (h : ktAny kt t (c :: cs) = some b) : ∃ w b, kt t w = some b := by
  unfold ktAny at h
  cases e : clsK c with
  | none => rw [e] at h; cases h
  | some u =>
    rw [e] at h
    cases e2 : kt t u with
    | none => simp only [e2] at h; cases h
    | some b' => exact ⟨u, b', e2⟩
theorem clsK_val {c : D} {v : V} {w : Value} {u : CK} (r : Rep (CtxOf X) F ρ c v) (rv : RelV v w) (e : clsK c = some u) : CkVal X.mg u w := by
  cases c <;> first | (cases e; done) | skip
  · cases e; cases r; exact rv
  · cases e
    cases r with
    | glb h => exact ⟨_, h, rv⟩
theorem kitAny_of (T : KitT X.K X.mg kt) {t : TyK} {tv : Value} (htv : TyVal X.mg t tv) : ∀ {cs : List D} {vs : List V} {us : List Value} {b : Bool}, RepL (CtxOf X) F ρ cs vs → Vals vs us → ktAny kt t cs = some b → PySem.W.kitAny X.K tv us = some b
  | _, _, _, _, .nil, .nil, h => by cases h; rfl
  | _, _, _, b, .cons (d := d) r rs, .cons rv rvs, h => by
    unfold ktAny at h
    cases e : clsK d with
    | none => rw [e] at h; cases h
    | some u =>
      rw [e] at h
      cases e2 : kt t u with
      | none => simp only [e2] at h; cases h
      | some b' =>
        simp only [e2] at h
        have q := T.ok t u b' e2 tv _ htv (clsK_val r rv e)
        cases b' with
        | true => cases h; exact kitAny_cons q (fun z => nomatch z) fun _ => rfl
        | false => exact kitAny_cons q (fun _ => kitAny_of T htv rs rvs h) fun z => nomatch z
theorem call_isiD (T : KitT X.K X.mg kt) : CallR X (.builtin "isinstance") (rIsiD (CtxOf X) kt) := by
  intro pins s σ H vs us Q I rv ⟨F, ρ, κ, xs, QD, S, r, h, P⟩
  have one : ∀ {x c : D} {t : TyK} {u : CK} {b : Bool}, RepL (CtxOf X) F ρ [x, c] vs → tyK x κ = some t → clsK c = some u → kt t u = some b → QD (.bl b) κ → wpAny (model X.prog X.w) X.A (call (.builtin "isinstance") us) (EP X pins σ Q) X.xe s := by
    intro x c t u b r h1 h2 h3 q
    obtain ⟨v, w, rfl, rx, rc⟩ := repL2 r
    obtain ⟨u1, u2, rfl, r1, r2⟩ := vals2 rv
    obtain ⟨tv, Pr, htv, Z, p, hx⟩ := kitD T I S rx r1 h1 ⟨u, b, h3⟩
    exact PySem.W.kia_one Z I.kIn p (T.ok t u b h3 tv u2 htv (clsK_val rc r2 h2)) hx fun tk => ⟨.bl b, H, I.tok tk, rfl, P _ _ _ _ _ _ (Ext.refl _ _) S (.bl b) q⟩
  unfold fIsi at h
  split at h
  · rename_i x c cs
    obtain ⟨t, b, h1, h2, q⟩ := h
    obtain ⟨v, w, rfl, rx, rc⟩ := repL2 r
    obtain ⟨u1, u2, rfl, r1, r2⟩ := vals2 rv
    obtain ⟨a, vs, rfl, hk, rl⟩ := view_at (k := .tup) (xs := c :: cs) S rc rfl
    cases r2
    obtain ⟨its, rvs, ⟨o, ho, hc, n, hd⟩, _⟩ := I.tuple hk
    obtain ⟨tv, Pr, htv, Z, p, hx⟩ := kitD T I S rx r1 h1 (ktAny_first h2)
    obtain ⟨oc, od, dt, sl⟩ := o
    simp only at hc hd
    subst hc hd
    exact PySem.W.kia_tup Z I.kIn p ho (kitAny_of T htv rl rvs h2) hx fun tk => ⟨.bl b, H, I.tok tk, rfl, P _ _ _ _ _ _ (Ext.refl _ _) S (.bl b) q⟩
  · obtain ⟨t, b, h1, h2, q⟩ := h
    exact one r h1 rfl h2 q
  · obtain ⟨t, b, h1, h2, q⟩ := h
    exact one r h1 rfl h2 q
  · exact h.elim
end

/-! ### methods of texts -/
def dM1 (f : D → D → Kap → DQ → Prop) (a b : DE) : DE := fun δ κ X Q => a δ κ X fun x κ1 => (∃ y, x = .str y) ∧ b δ κ1 X fun z κ2 => f x z κ2 Q
def dM0 (f : D → Kap → DQ → Prop) (a : DE) : DE := fun δ κ X Q => a δ κ X fun x κ1 => (∃ y, x = .str y) ∧ f x κ1 Q
theorem lift_m1 {C : Ctx} {W : WX} {f : D → D → Kap → DQ → Prop} {r : V → List V → Hp → VK → Prop} {a b : DE} (hs : Sim2 C f (fun x y H Q => r x [y] H Q)) {σ : L2.St} {H : Hp} {Q : VK} (h : liftE C W (dM1 f a b) σ H Q) : tM1 r (liftE C W a) (liftE C W b) σ H Q := by
  obtain ⟨F, ρ, κ, δ, XD, QD, S, R, h, P, PX⟩ := h
  refine ⟨F, ρ, κ, δ, XD, _, S, R, h, fun F1 ρ1 κ1 H1 x v e1 S1 R1 ⟨⟨y, hy⟩, h1⟩ => ?_, PX⟩
  subst hy
  cases R1
  exact ⟨⟨y, rfl⟩, F1, ρ1, κ1, δ, XD, _, S1, R.ext e1, h1, fun F2 ρ2 κ2 H2 z u e2 S2 R2 h2 => hs _ _ _ _ _ _ _ _ _ _ S2 (.str y) R2 h2 (P.ext (e1.trans e2)), PX.ext e1⟩
theorem lift_m0 {C : Ctx} {W : WX} {f : D → Kap → DQ → Prop} {r : V → List V → Hp → VK → Prop} {a : DE} (hs : Sim1 C f (fun x H Q => r x [] H Q)) {σ : L2.St} {H : Hp} {Q : VK} (h : liftE C W (dM0 f a) σ H Q) : tM0 r (liftE C W a) σ H Q := by
  obtain ⟨F, ρ, κ, δ, XD, QD, S, R, h, P, PX⟩ := h
  refine ⟨F, ρ, κ, δ, XD, _, S, R, h, fun F1 ρ1 κ1 H1 x v e1 S1 R1 ⟨⟨y, hy⟩, h1⟩ => ?_, PX⟩
  subst hy
  cases R1
  exact ⟨⟨y, rfl⟩, hs _ _ _ _ _ _ _ _ S1 (.str y) h1 (P.ext e1)⟩
def fJoin : D → D → Kap → DQ → Prop := fun x y κ Q => match x with
  | .str a => ∃ ys : List Str, (view y κ = some (.lst, ys.map D.str) ∨ view y κ = some (.tup, ys.map D.str)) ∧ (ys.map (·.length)).sum + ys.length * a.length ≤ 16777216 ∧ Q (.str (Txt.join a ys)) κ
  | _ => False
section
variable {X : Cx} {W : WX} {e1 e2 : Expr} {a b : DE} {apos pos : Pos}
theorem sim_join {C : Ctx} : Sim2 C fJoin (fun x y H Q => ∃ a p, ∃ ys : List Str, x = .str a ∧ [y] = [.ref p] ∧ (SqL C.K H p (ys.map V.str) ∨ SqT C.K H p (ys.map V.str)) ∧ (ys.map (·.length)).sum + ys.length * a.length ≤ 16777216 ∧ Q (.str (Txt.join a ys)) H) := by
  intro F ρ κ H x y v u QD Q S rx ry h P
  cases x <;> first | exact h.elim | skip
  cases rx
  obtain ⟨ys, h1, h2, h3⟩ := h
  rcases h1 with h1 | h1
  · obtain ⟨p, vs, rfl, hk, rl⟩ := view_at S ry h1
    have e := rl.strs
    subst e
    exact ⟨_, p, ys, rfl, rfl, .inl (SqL.of hk), h2, P _ _ _ _ _ _ (Ext.refl _ _) S (.str _) h3⟩
  · obtain ⟨p, vs, rfl, hk, rl⟩ := view_at S ry h1
    have e := rl.strs
    subst e
    exact ⟨_, p, ys, rfl, rfl, .inr hk, h2, P _ _ _ _ _ _ (Ext.refl _ _) S (.str _) h3⟩
theorem pd_join (ho : PED X W e1 a) (he : PED X W e2 b) (hs : starEach [e2] X.env = [(false, eval e2 X.env)] := by rfl) (hbase : attributeBase e1 "join" X.env (eval e1 X.env) = eval e1 X.env := by rfl) (hline : (apos.endLine == pos.line) = true := by rfl) :
    PED X W (.Call (.Attribute e1 "join" apos) [e2] [] pos) (dM1 fJoin a b) := pe_weak (pe_join ho he hs hbase hline) fun _ _ _ => lift_m1 sim_join
end

/-! ### methods of lists -/
def isSeq (T : String) (x : D) (κ : Kap) : Prop := match T with
  | "list" => ∃ xs, view x κ = some (.lst, xs)
  | _ => False
def dBM (T : String) (f : D1N) (a : DE) (as : DA) : DE := fun δ κ X Q => a δ κ X fun x κ1 => isSeq T x κ1 ∧ as δ κ1 X fun xs κ2 => f x xs κ2 Q
theorem isSeq_at {K : PySem.W.Frag} {mg : Str → Option Value} {F : Hp} {ρ : Loc0} {κ : Kap} {H : Hp} {T : String} {x : D} {v : V} (S : StR ⟨K, mg⟩ F ρ κ H) (r : Rep ⟨K, mg⟩ F ρ x v) (h : isSeq T x κ) : tyV K T v H := by
  unfold isSeq at h
  split at h
  · obtain ⟨xs, h⟩ := h
    obtain ⟨a, vs, rfl, hk, _⟩ := view_at S r h
    exact .inl ⟨rfl, vs, SqL.of hk⟩
  · exact h.elim
theorem lift_bm {K : PySem.W.Frag} {mg : Str → Option Value} {W : WX} {T : String} {f : D1N} {r : V → List V → Hp → VK → Prop} {a : DE} {as : DA} (hs : Sim1N ⟨K, mg⟩ f r) {σ : L2.St} {H : Hp} {Q : VK} (h : liftE ⟨K, mg⟩ W (dBM T f a as) σ H Q) : tBM K T r (liftE ⟨K, mg⟩ W a) (liftA ⟨K, mg⟩ W as) σ H Q := by
  obtain ⟨F, ρ, κ, δ, XD, QD, S, R, h, P, PX⟩ := h
  exact ⟨F, ρ, κ, δ, XD, _, S, R, h, fun F1 ρ1 κ1 H1 x v e1 S1 R1 ⟨h0, h1⟩ => ⟨isSeq_at S1 R1 h0, F1, ρ1, κ1, δ, XD, _, S1, R.ext e1, h1, fun F2 ρ2 κ2 H2 ys us e2 S2 R2 h2 => hs _ _ _ _ _ _ _ _ _ _ S2 (R1.ext e2) R2 h2 (P.ext (e1.trans e2)), PX.ext e1⟩, PX⟩
/-- a cell's list, changed -/
theorem cell_lst {C : Ctx} {F : Hp} {ρ : Loc0} {κ : Kap} {H : Hp} {n : Nat} {v : V} {xs : List D} (S : StR C F ρ κ H) (r : Rep C F ρ (.cell n) v) (h : κ n = some (.live .lst xs)) :
    ∃ a vs, v = .ref a ∧ ρ n = some a ∧ H a = some (.lst vs) ∧ RepL C F ρ xs vs ∧ ∀ ys ws, RepL C F ρ ys ws → StR C F ρ (kset κ n (.live .lst ys)) (upd H a (.lst ws)) := by
  obtain ⟨a, vs, rfl, h1, h2, h3⟩ := cell_at S r h
  exact ⟨a, vs, rfl, h1, h2, h3, fun ys ws r => S.write (k' := .lst) h h1 (fun _ q => q) r⟩
def fAppend : D1N := fun x ds κ Q => match x, ds with
  | .cell n, [d] => ∃ xs, κ n = some (.live .lst xs) ∧ xs.length < sizeLine ∧ Q .non (kset κ n (.live .lst (xs ++ [d])))
  | _, _ => False
theorem sim_append {C : Ctx} : Sim1N C fAppend rAppend := by
  intro F ρ κ H x v ds vs QD Q S rx rd h P
  match x, ds, h with
  | .cell n, [d], ⟨xs, h1, h2, h3⟩ =>
    obtain ⟨a, ws, rfl, h4, h5, h6, h7⟩ := cell_lst S rx h1
    obtain ⟨w, rfl, rw'⟩ := repL1 rd
    exact ⟨a, ws, w, rfl, rfl, h5, by rw [← h6.length]; exact h2, P _ _ _ _ _ _ (Ext.refl _ _) (h7 _ _ (h6.append (.cons rw' .nil))) .non h3⟩
section
variable {X : Cx} {W : WX} {o e : Expr} {es : List Expr} {a : DE} {as : DA} {apos cpos : Pos}
theorem pd_append (ho : PED X W o a) (ha : PAD X W (e :: es) as) (hbase : attributeBase o "append" X.env (eval o X.env) = eval o X.env := by rfl)
    (hfew : ((backTo cpos (starEach (e :: es) X.env)).all (fun x => !x.1) && (backToKw cpos (keywordEach [] X.env)).all (fun x => x.1.isSome) && decide ((e :: es).length + ([] : List Keyword).length + (if ([] : List Keyword).isEmpty then 0 else 1) < 30)) = true := by rfl)
    (hline : (apos.endLine == cpos.line) = true := by rfl) (hs : starEach (e :: es) X.env = (false, eval e X.env) :: starEach es X.env := by rfl) (hplain : (backTo cpos (starEach es X.env)).any (·.1) = false := by rfl) :
    PED X W (.Call (.Attribute o "append" apos) (e :: es) [] cpos) (dBM "list" fAppend a as) :=
  pe_weak (pe_bm PySem.F.plainAttrs_list PySem.F.slot_list_append PySem.F.type_list_append mt_append ho ha hbase hfew hline hs hplain) fun _ _ _ => lift_bm sim_append
end
end DL

/-! DL: own exceptions over ValueError, made and raised. -/
namespace DL
open PySem PySem.Spec PyProof.Rows L2

/-- an own class F over ValueError without an __init__ of its own: F.__init__ is ValueError's -/
structure BaseC (K : PySem.W.Frag) (mg : Str → Option Value) (x : Str) (ca : Addr) : Prop where
  m : mg x = some (.ref ca)
  ga : PySem.W.specialIn K (.ref ca) "__getattribute__" = some (some (.builtin "type.__getattribute__"))
  rd : PySem.W.readsIn K ca (.type "type") = true
  fi : PySem.W.findCls K (.ref ca) (.type "type") "__init__" = some (.val (.builtin "ValueError.__init__"))
section
variable {X : Cx} {e : Expr} {es : List Expr} {ta : TA} {x : Str} {ca : Addr} {p1 p2 pos : Pos}
theorem pe_finit {pl : Sem Bool} (B : BaseC X.K X.mg x ca) (ha : PA X (e :: es) ta) (hg : Gl X x := by rfl) (hdb : (x == ("__debug__" : Str)) = false := by decide)
    (hc : eval (.Call (.Attribute (.Name x p1) "__init__" p2) (e :: es) [] pos) X.env = (do
      let ov ← eval (.Name x p1) X.env
      standAt p2.atName
      let (f, first) ← holding [ov] (getMethod ov "__init__" pl)
      callWith pos f first (backTo pos (starEach (e :: es) X.env)) (backToKw pos (keywordEach [] X.env))) := by rfl)
    (he : starEach (e :: es) X.env = (false, eval e X.env) :: starEach es X.env := by rfl) (hpl : (backTo pos (starEach es X.env)).any (·.1) = false := by rfl) :
    PE X (.Call (.Attribute (.Name x p1) "__init__" p2) (e :: es) [] pos) (tVeI X.K ta) := by
  refine ⟨fun pins s σ H Q I h => PySem.W.methodCall_KW (ld_glob I hg B.m ?_ hdb) hc⟩
  refine PySem.W.method_cls I.kIn B.ga (PySem.W.cls_value I.kIn B.rd B.fi (by decide +kernel) ?_)
  refine PyProof.Rows.callWith_method1 (thn (ha.run pos pins _ σ H _ (I.tok _) h) fun us s1 ⟨vs, H1, I1, r1, a, C, ws, ev, hl, T, ea, q⟩ => ?_) he hpl
  subst ev
  cases r1 with
  | @cons _ u0 _ ur ra rw' =>
    cases (show u0 = Value.ref a from ra)
    exact oinit_ok T I1 ea (by rw [← Paired.length rw', sizeLine_eq]; omega) fun s' J => ⟨.non, H1, J, rfl, q⟩
end
/-- an __init__ that lays one field -/
def spEx1 (K : PySem.W.Frag) (f : Str) : Sp := fun vs H Q _ => ∃ (a C : Addr) (y : V), vs = [.ref a, y] ∧ OexC K C ∧ PySem.W.findIn K (.ref C) f = some none ∧ H a = some (exo a C none) ∧ ∀ dx, H dx = none → dx ≠ a → Q .non (upd (upd H dx (exd dx [(f, y)])) a (exo a C (some dx)))
/-- .. two -/
def spEx2 (K : PySem.W.Frag) (f g : Str) : Sp := fun vs H Q _ => ∃ (a C : Addr) (y z : V), vs = [.ref a, y, z] ∧ OexC K C ∧ PySem.W.findIn K (.ref C) f = some none ∧ PySem.W.findIn K (.ref C) g = some none ∧ H a = some (exo a C none) ∧
  ∀ dx, H dx = none → dx ≠ a → Q .non (upd (upd H dx (exd dx [(g, z), (f, y)])) a (exo a C (some dx)))
/-- .. none -/
def spEx0 (K : PySem.W.Frag) : Sp := fun vs H Q _ => ∃ (a C : Addr), vs = [.ref a] ∧ OexC K C ∧ H a = some (exo a C none) ∧ Q .non H
section
variable {P : Program} {w : World} {K : PySem.W.Frag} {mg : Str → Option Value} {base : Heap}
/-- the first statement of such an __init__, F.__init__(self, '..') -/
abbrev InitHead (P : Program) (w : World) (K : PySem.W.Frag) (mg : Str → Option Value) (base : Heap) (N : List Str) (qual : Str) (st s1 : Stmt) (f : Addr) : Prop :=
  ∀ (cdv : Value) (A : Around) (outer : List Env) (s : Shared) (H : Hp) (E : XK), ∃ t : Str, PS (cxOf CX0 P w K mg base N qual (defScope st) f cdv A outer s H E).nox s1 (tDrop (tVeI K (tCons (tVar 0) (tCons (tC (.str t)) tNil))))
theorem ex1_ok {qual : Str} {st s1 : Stmt} {f : Addr} {fd : FuncData} {par fl : Str} {p7 p8 p9 p10 : Pos} (F : Fun K "__init__" qual st f fd) (hi : InitHead P w K mg base ["self", par] qual st s1 f)
    (hb : defBody st = [s1, .Assign [.Attribute (.Name "self" p7) fl p8] (.Name par p9) p10])
    (S : FnScope ["self", par] ["self", par] (defScope st)) (h2 : (defScope st).names.lookup (Str.ofString "self") = some NameKind.local) (h3 : (defScope st).names.lookup par = some NameKind.local)
    (hdp : (par == ("__debug__" : Str)) = false) (hdc : (par == ("__classdict__" : Str)) = false) :
    FnOk P w K mg base CX0 1 f fd ["self", par] (spEx1 K fl) := by
  refine F.ok S (fun vs H Q E h => ?_) (fun cdv A outer s H vs Q E hr h => ?_)
  · obtain ⟨a, C, y, rfl, _⟩ := h; rfl
  · obtain ⟨a, C, y, rfl, hC, hf, ha, q⟩ := h
    rw [hb]
    obtain ⟨t, ht⟩ := hi cdv A outer s H E
    refine ⟨_, pss_cons ht (pss_one (ps_ost (pe_var (i := 0) rfl (.inl h2)) (pe_var (i := 1) rfl (.inl h3) hdp hdc))), ?_⟩
    refine ⟨_, rfl, a, C, _, rfl, (by simp), hC, ha, ?_⟩
    exact ⟨_, rfl, _, rfl, a, C, rfl, hC, hf, .inl ⟨ha, fun dx h1 h2 => q dx h1 h2⟩⟩
theorem ex2_ok {qual : Str} {st s1 : Stmt} {f : Addr} {fd : FuncData} {par par2 fl fl2 : Str} {p7 p8 p9 p10 p11 p12 p13 p14 : Pos} (F : Fun K "__init__" qual st f fd) (hi : InitHead P w K mg base ["self", par, par2] qual st s1 f)
    (hb : defBody st = [s1, .Assign [.Attribute (.Name "self" p7) fl p8] (.Name par p9) p10, .Assign [.Attribute (.Name "self" p11) fl2 p12] (.Name par2 p13) p14])
    (S : FnScope ["self", par, par2] ["self", par, par2] (defScope st)) (h2 : (defScope st).names.lookup (Str.ofString "self") = some NameKind.local) (h3 : (defScope st).names.lookup par = some NameKind.local) (h4 : (defScope st).names.lookup par2 = some NameKind.local)
    (hdp : (par == ("__debug__" : Str)) = false) (hdc : (par == ("__classdict__" : Str)) = false) (hdp2 : (par2 == ("__debug__" : Str)) = false) (hdc2 : (par2 == ("__classdict__" : Str)) = false) :
    FnOk P w K mg base CX0 1 f fd ["self", par, par2] (spEx2 K fl fl2) := by
  refine F.ok S (fun vs H Q E h => ?_) (fun cdv A outer s H vs Q E hr h => ?_)
  · obtain ⟨a, C, y, z, rfl, _⟩ := h; rfl
  · obtain ⟨a, C, y, z, rfl, hC, hf, hf2, ha, q⟩ := h
    rw [hb]
    obtain ⟨t, ht⟩ := hi cdv A outer s H E
    refine ⟨_, pss_cons ht (pss_cons (ps_ost (pe_var (i := 0) rfl (.inl h2)) (pe_var (i := 1) rfl (.inl h3) hdp hdc)) (pss_one (ps_ost (pe_var (i := 0) rfl (.inl h2)) (pe_var (i := 2) rfl (.inl h4) hdp2 hdc2)))), ?_⟩
    refine ⟨_, rfl, a, C, _, rfl, (by simp), hC, ha, ?_⟩
    refine ⟨_, rfl, _, rfl, a, C, rfl, hC, hf, .inl ⟨ha, fun dx h1 h2 => ?_⟩⟩
    refine ⟨_, rfl, _, rfl, a, C, rfl, hC, hf2, .inr ⟨dx, _, upd_same, (by rw [upd_ne h2]; exact upd_same), by simp, ?_⟩⟩
    have e : upd (upd (upd H dx (exd dx [(fl, y)])) a (exo a C (some dx))) dx (exd dx [(fl2, z), (fl, y)]) = upd (upd H dx (exd dx [(fl2, z), (fl, y)])) a (exo a C (some dx)) := by
      funext b'
      unfold upd
      by_cases e1 : b' = dx
      · subst e1; rw [if_pos rfl, if_neg h2, if_pos rfl]
      · rw [if_neg e1, if_neg e1]
        by_cases e2 : b' = a
        · rw [if_pos e2, if_pos e2]
        · rw [if_neg e2, if_neg e2, if_neg e1]
    show Q .non _
    rw [e]
    exact q dx h1 h2
end

/-! ### made as a value -/
/-- an own exception class c: its fields (as they lie, the last one first), how it is made -/
structure ExcM (P : Program) (w : World) (K : PySem.W.Frag) (mg : Str → Option Value) (base : Heap) (c : Str) (ca fI : Addr) (fd : FuncData) (ps : List Str) (sp : Sp) : Prop where
  m : mg c = some (.ref ca)
  ox : OexC K ca
  ini : PySem.W.findIn K (.ref ca) "__init__" = some (some (.ref fI))
  ty : PySem.W.typeIn K (.ref fI) = some (.type "function")
  fn : FnOk P w K mg base CX0 1 fI fd ps sp
  bd : Binds K fd ps []
def dMk (c : Str) (ns : List Str) (as : DA) : DE := fun δ κ X Q => as δ κ X fun xs κ1 => xs.length = ns.length ∧ xs.length ≤ 100 ∧ Q (.node (.exc c ns) xs.reverse) κ1
/-- what an __init__'s promise must give -/
def ExGives (K : PySem.W.Frag) (ns : List Str) (sp : Sp) : Prop := ∀ (a C : Addr) (ys : List V) (H : Hp) (Q : VK) (E : XK), ys.length = ns.length → OexC K C → (∀ f ∈ ns, PySem.W.findIn K (.ref C) f = some none) → H a = some (exo a C none) →
  ((ns = [] → Q .non H) ∧ (ns ≠ [] → ∀ dx, H dx = none → dx ≠ a → Q .non (upd (upd H dx (exd dx (ns.zip ys.reverse))) a (exo a C (some dx))))) → sp (.ref a :: ys) H Q E
theorem exGives1 {K : PySem.W.Frag} {f : Str} : ExGives K [f] (spEx1 K f) := fun a C ys H Q E hl hC hf ha hq => by
  match ys, hl with
  | [y], _ => exact ⟨a, C, y, rfl, hC, hf f (by simp), ha, hq.2 (by simp)⟩
theorem exGives2 {K : PySem.W.Frag} {f g : Str} : ExGives K [g, f] (spEx2 K f g) := fun a C ys H Q E hl hC hf ha hq => by
  match ys, hl with
  | [y, z], _ => exact ⟨a, C, y, z, rfl, hC, hf f (by simp), hf g (by simp), ha, hq.2 (by simp)⟩
theorem exGives0 {K : PySem.W.Frag} : ExGives K [] (spEx0 K) := fun a C ys H Q E hl hC hf ha hq => by
  match ys, hl with
  | [], _ => exact ⟨a, C, rfl, hC, ha, hq.1 rfl⟩
theorem upd_drop {H : Hp} {a : Addr} {o o' : HO} : upd (upd H a o) a o' = upd H a o' := upd_upd
theorem exo_heap {H : Hp} {a dx : Addr} {o o' u : HO} (h : dx ≠ a) : upd (upd (upd H a o) dx u) a o' = upd (upd H dx u) a o' := by
  funext b
  by_cases e : b = a <;> by_cases e2 : b = dx <;> simp [upd, e, e2]
section
variable {X : Cx} {W : WX} {k : Nat} {c : Str} {ca fI : Addr} {fd : FuncData} {ps : List Str} {sp : Sp} {ns : List Str} {e : Expr} {es : List Expr} {as : DA} {p pos : Pos}
theorem zip_parts {ns : List Str} {vs : List V} (h : vs.length = ns.length) : (ns.zip vs.reverse).map (·.1) = ns ∧ (ns.zip vs.reverse).map (·.2) = vs.reverse :=
  ⟨List.map_fst_zip (by rw [List.length_reverse, h]; exact Nat.le_refl _), List.map_snd_zip (by rw [List.length_reverse, h]; exact Nat.le_refl _)⟩
theorem RepL.reverse {C : Ctx} {F : Hp} {ρ : Loc0} : ∀ {xs : List D} {vs : List V}, RepL C F ρ xs vs → RepL C F ρ xs.reverse vs.reverse
  | _, _, .nil => .nil
  | _, _, .cons h t => by
    rw [List.reverse_cons, List.reverse_cons]
    exact (RepL.reverse t).append (.cons h .nil)
theorem pd_mkExc (G : Good (k + 2) X W) (M : ExcM X.prog X.w X.K X.mg X.base c ca fI fd ps sp) (hg : ExGives X.K ns sp) (hf : ∀ f ∈ ns, PySem.W.findIn X.K (.ref ca) f = some none) (ha : PAD X W (e :: es) as) (hgl : Gl X c := by rfl) (hdb : (c == ("__debug__" : Str)) = false := by decide)
    (he : starEach (e :: es) X.env = (false, eval e X.env) :: starEach es X.env := by rfl) (hpl : (backTo pos (starEach es X.env)).any (·.1) = false := by rfl) : PED X W (.Call (.Name c p) (e :: es) [] pos) (dMk c ns as) := by
  refine ⟨fun pins s σ H Q I ⟨F, ρ, κ, δ, XD, QD, S, R, h, P, PX⟩ => ?_⟩
  obtain ⟨nm, q, N, bs, bm, sn, sub, ab, col, dd, k0, k1, k2, k3, k5, hC, hbm⟩ := M.ox.cls
  refine wpAny_Call_Name_kw (ld_glob I hgl M.m ?_ hdb)
  refine PySem.W.callWith_K (h₀ := X.base) I.ok.mod.kin M.ox.kC (thn (ha.run pos pins s σ H (fun vs H1 => ∃ F1 ρ1 κ1 xs, Ext F ρ F1 ρ1 ∧ StR (CtxOf X) F1 ρ1 κ1 H1 ∧ RepL (CtxOf X) F1 ρ1 xs vs ∧ xs.length = ns.length ∧ xs.length ≤ 100 ∧ QD (.node (.exc c ns) xs.reverse) κ1) I
    ⟨F, ρ, κ, δ, XD, _, S, R, h, fun F1 ρ1 κ1 H1 xs vs e1 S1 R1 h1 => ⟨F1, ρ1, κ1, xs, e1, S1, R1, h1⟩, PX⟩) fun us s1 ⟨vs, H1, I1, r1, F1, ρ1, κ1, xs, e1, S1, R1, hn, h100, hQ⟩ => ⟨I1.kIn, ?_⟩) he hpl
  show wpAny _ _ (call (.ref ca) us) _ _ _
  obtain ⟨hp, g, dr, tk, os⟩ := s1
  have hsz : hp.objs.size ≤ hp.objs.size + 1 := Nat.le_succ _
  have hnn : H1 (hp.objs.size + 1) = none := I1.hok.fresh hsz
  have kk : ∀ b o, hp.get? b = some o → ((hp.push (PySem.W.kdv_tup us)).push (PySem.HandSPX.excO ca hp.objs.size)).get? b = some o := fun b o e => Heap.get?_push_of_some _ (Heap.get?_push_of_some _ e)
  have hget : ((hp.push (PySem.W.kdv_tup us)).push (PySem.HandSPX.excO ca hp.objs.size)).get? (hp.objs.size + 1) = some (PySem.HandSPX.excO ca hp.objs.size) := by heap_get
  have I2 : L2.Inv X pins σ (upd H1 (hp.objs.size + 1) (exo (hp.objs.size + 1) ca none)) ⟨(hp.push (PySem.W.kdv_tup us)).push (PySem.HandSPX.excO ca hp.objs.size), g, dr, tk, os⟩ := I1.laid (t' := tk) (o := exo (hp.objs.size + 1) ca none) kk hsz (exo_ok hget)
  have lv : vs.length = ns.length := by rw [← R1.length, hn]
  have hq := hg (hp.objs.size + 1) ca vs (upd H1 (hp.objs.size + 1) (exo (hp.objs.size + 1) ca none)) (fun v H2 => v = .non ∧ Q (.ref (hp.objs.size + 1)) H2) E0 lv M.ox hf upd_same ⟨fun hnil => ⟨rfl, by
      subst hnil
      cases xs with
      | cons => simp at hn
      | nil =>
        cases R1
        obtain ⟨ex, S2⟩ := S1.laid (o := exo (hp.objs.size + 1) ca none) hnn
        exact P _ _ _ _ _ _ (e1.trans ex) S2 (.node (k := .exc c []) ⟨ca, M.m, .inl ⟨rfl, rfl, upd_same⟩⟩ .nil) hQ⟩, fun hne dx hdx hda => ⟨rfl, by
      rw [exo_heap hda]
      have hdx' : H1 dx = none := by rw [upd_ne hda] at hdx; exact hdx
      obtain ⟨z1, z2⟩ := zip_parts lv
      obtain ⟨ex, S2⟩ := S1.laid (o := exd dx (ns.zip vs.reverse)) hdx'
      obtain ⟨ex2, S3⟩ := S2.laid (p := hp.objs.size + 1) (o := exo (hp.objs.size + 1) ca (some dx)) (by rw [upd_ne hda.symm]; exact hnn)
      exact P _ _ _ _ _ _ (e1.trans (ex.trans ex2)) S3 (.node (k := .exc c ns) ⟨ca, M.m, .inr ⟨dx, _, upd_same, by rw [upd_ne hda]; exact upd_same, z1, z2⟩⟩ ((R1.ext (ex.trans ex2)).reverse)) hQ⟩⟩
  have hl : (Value.ref (hp.objs.size + 1) :: us ++ []).length = ps.length := by
    have e := M.fn.len _ _ _ _ hq
    rw [List.length_cons] at e
    rw [List.append_nil, List.length_cons, ← Paired.length r1]
    exact e
  have hbd := M.bd _ (Value.ref (hp.objs.size + 1) :: us) I2.kIn hl
  rw [List.append_nil] at hbd
  have hus : us.length ≤ sizeLine := by
    rw [← Paired.length r1, lv, ← hn, sizeLine_eq]
    omega
  refine wpAny_call (PySem.HandSPX.call_own PySem.F.excBase_ValueError (fun Y => PySem.HandSPX.refsVE_contains Y bm hbm) (I1.kIn _ _ hC) (PySem.W.looks_findIn I1.kIn M.ini) (fun self => PySem.W.bind_fn I1.kIn self M.ty) hus
    (codeAny_mono (M.fn.run _ X.stack _ _ ⟨Value.ref (hp.objs.size + 1) :: us, []⟩ (Value.ref (hp.objs.size + 1) :: us) (V.ref (hp.objs.size + 1) :: vs) _ E0 ((G.rm.mono (by omega : 2 ≤ k + 2)).make ca us []) (I2.env0.make ca us []) hbd (.cons rfl r1) hq) fun r s' hq' => ?_))
  cases r with
  | error er => exact hq'.elim
  | ok fl =>
    cases fl with
    | ret u =>
      obtain ⟨v, H', J, rv, ev, q2⟩ := I2.after (X := X) (pins := pins) (σ := σ) hq'
      subst ev
      exact ⟨rv, .ref (hp.objs.size + 1), H', J, rfl, q2⟩
    | next => exact False.elim hq'
    | brk => exact False.elim hq'
    | cont => exact False.elim hq'
end
end DL

/-! DL: displays of dicts, defs by name. -/
namespace DL
open PySem PySem.Spec PyProof.Rows L2

theorem takesN0 {X : Cx} : L2N.Takes X (fun _ _ _ _ => False) := fun _ _ ⟨_, _, _, _, _, _, _, _, _, _, _, _, _, _, _, _, z⟩ => z.elim
theorem Good.blk {k : Nat} {X : Cx} {W : WX} (G : Good k X W) {s : Shared} {H : Hp} {scope : Scope} {cenv : Env} {fp : List Addr} : Good k (X.blk s H scope cenv fp) WF :=
  ⟨takesN0, PassesOwn.never, G.rm, G.gd, G.sm, G.calm, G.nd⟩
def fNeg : D1 := fun x κ Q => match x with
  | .int i => Q (.int (-i)) κ
  | _ => False
theorem sim_neg {C : Ctx} : Sim1 C fNeg (rU fun i => .int (-i)) := by
  intro F ρ κ H x v QD Q S r h P
  cases x <;> first | exact h.elim | skip
  cases r
  exact ⟨_, rfl, P _ _ _ _ _ _ (Ext.refl _ _) S (.int _) h⟩
theorem pd_neg {X : Cx} {W : WX} {e : Expr} {a : DE} {pos : Pos} (ha : PED X W e a) : PED X W (.UnaryOp .USub e pos) (dUn fNeg a) := pd_un un_neg sim_neg ha

/-! ### dicts written out -/
def dDct0 (m : Bool) : DE := fun _ κ _ Q => fNew m (.dct []) [] κ Q
theorem pd_dct0 {X : Cx} {W : WX} {pos : Pos} (m : Bool) : PED X W (.Dict [] [] pos) (dDct0 m) := pe_weak pe_dnewK fun σ H Q ⟨F, ρ, κ, δ, XD, QD, S, R, h, P, PX⟩ =>
  new_dct (kvs := []) S .nil h P
def dPairs : List (DE × DE) → DEnv → Kap → DX → (List (D × D) → Kap → Prop) → Prop
  | [], _, κ, _, Q => Q [] κ
  | (a, b) :: r, δ, κ, X, Q => a δ κ X fun x κ1 => b δ κ1 X fun y κ2 => dPairs r δ κ2 X fun ps κ3 => Q ((x, y) :: ps) κ3
def dDisp (m : Bool) (prs : List (DE × DE)) : DE := fun δ κ X Q => ∀ n, κ n = none → dPairs prs δ (kset κ n (.live (.dct []) [])) X fun ps κ1 => κ1 n = some (.live (.dct []) []) ∧ ∃ ks : List Key, ps.map (·.1) = ks.map keyD ∧ ks.Nodup ∧ ks.length ≤ 15 ∧
  match m with
  | true => Q (.cell n) (kset κ1 n (.live (.dct ks) (ps.map (·.2))))
  | false => Q (.node (.dct ks) (ps.map (·.2))) (kset κ1 n .dead)
inductive RepP (C : Ctx) (F : Hp) (ρ : Loc0) : List (D × D) → List (V × V) → Prop
  | nil : RepP C F ρ [] []
  | cons {x y : D} {v u : V} {ps : List (D × D)} {qs : List (V × V)} (h1 : Rep C F ρ x v) (h2 : Rep C F ρ y u) (t : RepP C F ρ ps qs) : RepP C F ρ ((x, y) :: ps) ((v, u) :: qs)
theorem RepP.ext {C : Ctx} {F F' : Hp} {ρ ρ' : Loc0} (e : Ext F ρ F' ρ') : ∀ {ps : List (D × D)} {qs : List (V × V)}, RepP C F ρ ps qs → RepP C F' ρ' ps qs
  | _, _, .nil => .nil
  | _, _, .cons h1 h2 t => .cons (h1.ext e) (h2.ext e) (RepP.ext e t)
theorem RepP.snd {C : Ctx} {F : Hp} {ρ : Loc0} : ∀ {ps : List (D × D)} {qs : List (V × V)}, RepP C F ρ ps qs → RepL C F ρ (ps.map (·.2)) (qs.map (·.2))
  | _, _, .nil => .nil
  | _, _, .cons _ h2 t => .cons h2 (RepP.snd t)
theorem RepP.keys {C : Ctx} {F : Hp} {ρ : Loc0} : ∀ {ks : List Key} {ps : List (D × D)} {qs : List (V × V)}, RepP C F ρ ps qs → ps.map (·.1) = ks.map keyD → ∃ kvs : List (Key × V), qs = kvs.map (fun kv => (kV kv.1, kv.2)) ∧ kvs.map (·.1) = ks ∧ kvs.map (·.2) = qs.map (·.2)
  | [], _, _, .nil, _ => ⟨[], rfl, rfl, rfl⟩
  | k :: ks, _, _, .cons (u := u) h1 _ t, h => by
    rw [List.map_cons, List.map_cons] at h
    obtain ⟨e1, e2⟩ := List.cons.inj h
    obtain ⟨kvs, q1, q2, q3⟩ := RepP.keys t e2
    have e1' := e1
    subst e1
    refine ⟨(k, u) :: kvs, ?_, by rw [List.map_cons, q2], by rw [List.map_cons, List.map_cons, q3]⟩
    rw [List.map_cons, ← q1]
    cases k with
    | inl i => cases h1; rfl
    | inr x => cases h1; rfl
theorem merge_nodup : ∀ {kvs acc : List (Key × V)}, (acc.map (·.1) ++ kvs.map (·.1)).Nodup → mergeK acc kvs = acc ++ kvs
  | [], acc, _ => by unfold mergeK; simp
  | (k, v) :: r, acc, h => by
    unfold mergeK
    rw [List.foldl_cons]
    have hk : ∀ p ∈ acc, p.1 ≠ k := fun p hp e => by
      rw [List.nodup_append] at h
      exact h.2.2 p.1 (List.mem_map.mpr ⟨p, hp, rfl⟩) k (by simp) e
    have e : putK acc k v = acc ++ [(k, v)] := by
      unfold putK
      rw [if_neg]
      rw [List.any_eq_true]
      rintro ⟨p, hp, q⟩
      exact hk p hp (of_decide_eq_true q)
    show mergeK (putK acc k v) r = _
    rw [e, merge_nodup (by simpa [List.append_assoc] using h), List.append_assoc]
    rfl
theorem lift_pairs {C : Ctx} {W : WX} {Qv : List (V × V) → Hp → Prop} : ∀ {prs : List (DE × DE)} {F : Hp} {ρ : Loc0} {κ : Kap} {δ : DEnv} {σ : L2.St} {H : Hp} {XD : DX} {QD : List (D × D) → Kap → Prop}, StR C F ρ κ H → RepS C F ρ δ σ → dPairs prs δ κ XD QD → PostX C F ρ XD W →
    (∀ F' ρ' κ' H' ps qs, Ext F ρ F' ρ' → StR C F' ρ' κ' H' → RepP C F' ρ' ps qs → QD ps κ' → Qv qs H') → tPairs (prs.map fun p => (liftE C W p.1, liftE C W p.2)) σ H Qv
  | [], F, ρ, κ, δ, σ, H, XD, QD, S, R, h, PX, P => P _ _ _ _ _ _ (Ext.refl _ _) S .nil h
  | (a, b) :: r, F, ρ, κ, δ, σ, H, XD, QD, S, R, h, PX, P => ⟨F, ρ, κ, δ, XD, _, S, R, h, fun F1 ρ1 κ1 H1 x v e1 S1 R1 h1 => ⟨F1, ρ1, κ1, δ, XD, _, S1, R.ext e1, h1, fun F2 ρ2 κ2 H2 y u e2 S2 R2 h2 =>
      lift_pairs S2 (R.ext (e1.trans e2)) h2 (PX.ext (e1.trans e2)) fun F3 ρ3 κ3 H3 ps qs e3 S3 R3 h3 => P _ _ _ _ _ _ (e1.trans (e2.trans e3)) S3 (.cons (R1.ext (e2.trans e3)) (R2.ext e3) R3) h3, PX.ext e1⟩, PX⟩
abbrev PPsD (X : Cx) (W : WX) (pos : Pos) (keys : List (Option Expr)) (values : List Expr) (prs : List (DE × DE)) : Prop := PPs X pos keys values (prs.map fun p => (liftE (CtxOf X) W p.1, liftE (CtxOf X) W p.2))
section
variable {X : Cx} {W : WX} {pos : Pos} {keys : List (Option Expr)} {values : List Expr} {prs : List (DE × DE)} {k v : Expr} {a b : DE}
theorem pps_nilD : PPsD X W pos [] [] [] := pps_nil
theorem pps_consD (h1 : PED X W k a) (h2 : PED X W v b) (h : PPsD X W pos keys values prs) : PPsD X W pos (some k :: keys) (v :: values) ((a, b) :: prs) := pps_cons h1 h2 h
theorem pd_disp (m : Bool) (h : PPsD X W pos keys values prs) (hall : keys.all (·.isSome) = true := by rfl) (hl : keys.length = values.length := by rfl) (h0 : keys ≠ [] := by exact fun z => nomatch z) (h15 : keys.length ≤ 15 := by decide) : PED X W (.Dict keys values pos) (dDisp m prs) :=
  pe_weak (pe_disp h hall hl h0 h15) fun σ H Q ⟨F, ρ, κ, δ, XD, QD, S, R, h, P, PX⟩ p hp => by
  obtain ⟨n, hn⟩ := S.fresh
  obtain ⟨ρ1, e1, hr, S1⟩ := S.cell (o := .dK []) (k := .dct []) (vs := []) (xs := []) hp (fun _ q => ⟨[], q, rfl, rfl⟩) .nil hn
  refine lift_pairs S1 (R.ext e1) (h n hn) (PX.ext e1) fun F2 ρ2 κ2 H2 ps qs e2 S2 R2 ⟨h1, ks, h2, h3, h4, h5⟩ => ?_
  obtain ⟨b, vs, g1, g2, ⟨kvs0, g3, g4, _⟩, g5⟩ := S2.live n _ _ h1
  rw [e2.r _ _ hr] at g1
  cases g1
  have hk0 : kvs0 = [] := by cases kvs0 with | nil => rfl | cons => cases g4
  subst hk0
  obtain ⟨kvs, q1, q2, q3⟩ := R2.keys h2
  refine ⟨g3, kvs, q1, by rw [← List.length_map (f := (·.1)), q2]; exact h4, ?_⟩
  have em : mergeK [] kvs = kvs := by rw [merge_nodup (by rw [q2]; exact h3)]; rfl
  rw [em]
  have S3 : StR (CtxOf X) F2 ρ2 (kset κ2 n (.live (.dct ks) (ps.map (·.2)))) (upd H2 p (.dK kvs)) := S2.write (k' := .dct ks) h1 (e2.r _ _ hr) (fun _ q => ⟨kvs, q, q2, q3⟩) R2.snd
  cases m with
  | true => exact P _ _ _ _ _ _ (e1.trans e2) S3 (.cell (e2.r _ _ hr)) h5
  | false =>
    obtain ⟨F3, e3, r3, S4⟩ := S3.freeze kset_same (e2.r _ _ hr)
    rw [kset_kset] at S4
    exact P _ _ _ _ _ _ (e1.trans (e2.trans e3)) S4 r3 h5
end

/-! ### defs by name -/
/-- a def of the text stands under its name and keeps a promise -/
structure OkD (P : Program) (w : World) (K : PySem.W.Frag) (mg : Str → Option Value) (base : Heap) (k : Nat) (x : Str) (f : Addr) (fd : FuncData) (ps : List Str) (sp : DSp) : Prop where
  m : mg x = some (.ref f)
  kp : PySem.W.keepIn K (.ref f) = true
  fn : FnG P w K mg base k f fd ps sp
  bd : Binds K fd ps []
def Ok (P : Program) (w : World) (K : PySem.W.Frag) (mg : Str → Option Value) (base : Heap) (k : Nat) (x : Str) (ps : List Str) (sp : DSp) : Prop := ∃ f fd, OkD P w K mg base k x f fd ps sp
theorem Ok.mono {P : Program} {w : World} {K : PySem.W.Frag} {mg : Str → Option Value} {base : Heap} {j k : Nat} {x : Str} {ps : List Str} {sp : DSp} (O : Ok P w K mg base j x ps sp) (h : j ≤ k) : Ok P w K mg base k x ps sp :=
  let ⟨f, fd, o⟩ := O; ⟨f, fd, o.m, o.kp, o.fn.mono h, o.bd⟩
section
variable {X : Cx} {W : WX} {j k : Nat} {ps : List Str} {sp : DSp} {x : Str} {e : Expr} {es : List Expr} {as : DA} {p pos : Pos}
theorem pd_callN (G : Good k X W) (O : Ok X.prog X.w X.K X.mg X.base k x ps sp) (ha : PAD X W (e :: es) as) (hg : Gl X x := by rfl) (hdb : (x == ("__debug__" : Str)) = false := by decide)
    (he : starEach (e :: es) X.env = (false, eval e X.env) :: starEach es X.env := by rfl) (hpl : (backTo pos (starEach es X.env)).any (·.1) = false := by rfl) : PED X W (.Call (.Name x p) (e :: es) [] pos) (dCall sp [] as) := by
  obtain ⟨f, fd, o⟩ := O
  exact pd_call G o.fn o.m o.kp o.bd nodef ha hg hdb he hpl
theorem pd_callN0 (G : Good k X W) (O : Ok X.prog X.w X.K X.mg X.base k x ps sp) (hg : Gl X x := by rfl) (hdb : (x == ("__debug__" : Str)) = false := by decide) : PED X W (.Call (.Name x p) [] [] pos) (dCall sp [] dNil) := by
  obtain ⟨f, fd, o⟩ := O
  exact pd_call0 G o.fn o.m o.kp o.bd nodef hg hdb
end
/-- what is known of a def ahead of its proof -/
structure DefAt (K : PySem.W.Frag) (mg : Str → Option Value) (x : Str) (st : Stmt) (f : Addr) (fd : FuncData) : Prop where
  m : mg x = some (.ref f)
  F : Fun K x x st f fd
section
variable {P : Program} {w : World} {K : PySem.W.Frag} {mg : Str → Option Value} {base : Heap}
theorem ok_def {x : Str} {st : Stmt} {f : Addr} {fd : FuncData} {N ps : List Str} {k : Nat} {b : DS} (D : DefAt K mg x st f fd) (S : FnScope N ps (defScope st)) (sm : ∃ o, base.get? sysModules = some o)
    (hbind : ∀ (kV doc pm : Value) (an : Option Addr) (cdv ct : Value) (us : List Value), us.length = ps.length → bindArgs (PySem.W.fnOf x x (defArgs st) (defBody st) (defScope st) .none kV doc pm an cdv ct) ⟨us, []⟩ = pure (ps.zip us))
    (hbody : ∀ (cdv : Value) (A : Around) (outer : List Env) (s : Shared) (H : Hp) (E : XK), Good k (cxD P w K mg base N x (defScope st) f cdv A outer s H E) (wxE E) → PSsD (cxD P w K mg base N x (defScope st) f cdv A outer s H E) (wxE E) (defBody st) b) :
    Ok P w K mg base (k + 1) x ps (spOf N.length ps.length b) :=
  ⟨f, fd, D.m, D.F.kp, Fn_ok D.F S sm hbody, D.F.binds hbind⟩
end
/-! ### exceptions by name -/
def ExOk (P : Program) (w : World) (K : PySem.W.Frag) (mg : Str → Option Value) (base : Heap) (c : Str) (ns : List Str) : Prop :=
  ∃ ca fI fd ps sp, ExcM P w K mg base c ca fI fd ps sp ∧ ExGives K ns sp ∧ ∀ f ∈ ns, PySem.W.findIn K (.ref ca) f = some none
theorem pd_mkE {X : Cx} {W : WX} {k : Nat} {c : Str} {ns : List Str} {e : Expr} {es : List Expr} {as : DA} {p pos : Pos} (G : Good (k + 2) X W) (O : ExOk X.prog X.w X.K X.mg X.base c ns) (ha : PAD X W (e :: es) as) (hgl : Gl X c := by rfl) (hdb : (c == ("__debug__" : Str)) = false := by decide)
    (he : starEach (e :: es) X.env = (false, eval e X.env) :: starEach es X.env := by rfl) (hpl : (backTo pos (starEach es X.env)).any (·.1) = false := by rfl) : PED X W (.Call (.Name c p) (e :: es) [] pos) (dMk c ns as) := by
  obtain ⟨ca, fI, fd, ps, sp, M, hg, hf⟩ := O
  exact pd_mkExc G M hg hf ha hgl hdb he hpl
theorem pd_glbRefE {X : Cx} {W : WX} {x : Str} {p : Pos} (hm : ∃ f, X.mg x = some (.ref f)) (hg : Gl X x := by rfl) (hdb : (x == ("__debug__" : Str)) = false := by decide) : PED X W (.Name x p) (dC (.glb x)) := by
  obtain ⟨f, hm⟩ := hm
  exact pd_glbRef hm hg hdb
end DL

/-! DL: from what the top has left to what the defs lean on. -/
namespace DL
open PySem PySem.Spec PyProof.Rows L2

section
variable {K : PySem.W.Frag} {mg : Str → Option Value} {h : Heap}
theorem defAt_of {x : Str} {st : Stmt} {f : Addr} {oc : Value} {od an : Option Addr} {osl : Array (Option Value)} {kV doc pm cdv ct : Value} (X : K.In h) (G : h.Ns mainGlobals mg) (a : PySem.W.nsIn K mainGlobals x = some (some (.ref f)))
    (l : K.lookup f = some ⟨oc, od, .func (PySem.W.fnOf x x (defArgs st) (defBody st) (defScope st) .none kV doc pm an cdv ct), osl⟩) (c : PySem.W.codeIn K cdv x = true) (k : PySem.W.keepIn K (.ref f) = true) :
    DefAt K mg x st f (PySem.W.fnOf x x (defArgs st) (defBody st) (defScope st) .none kV doc pm an cdv ct) := ⟨PySem.W.mg_of X G a, fun_mk l c k⟩
theorem glb_of {x : Str} {v : Value} (X : K.In h) (G : h.Ns mainGlobals mg) (a : PySem.W.nsIn K mainGlobals x = some (some v)) : mg x = some v := PySem.W.mg_of X G a
theorem bltn_of {x : Str} (X : K.In h) (G : h.Ns mainGlobals mg) (a : PySem.W.nsIn K mainGlobals x = some none) : mg x = none := PySem.W.mg_none_of X G a
theorem baseC_of {x : Str} {ca : Addr} (X : K.In h) (G : h.Ns mainGlobals mg) (a : PySem.W.nsIn K mainGlobals x = some (some (.ref ca))) (ga : PySem.W.specialIn K (.ref ca) "__getattribute__" = some (some (.builtin "type.__getattribute__")))
    (rd : PySem.W.readsIn K ca (.type "type") = true) (fi : PySem.W.findCls K (.ref ca) (.type "type") "__init__" = some (.val (.builtin "ValueError.__init__"))) : BaseC K mg x ca := ⟨PySem.W.mg_of X G a, ga, rd, fi⟩
theorem oexC_of {C : Addr} {nm q : Str} {N : Addr} {bs bm : List Value} {sn : List Str} {sub : List Value} {ab : Bool} {col : Option Bool} {dd : Option Addr} {m0 m1 m2 m3 m5 : Option Value}
    (xL : K.lookup C = some (excClassObj nm q C N bs bm true sn sub ab col dd m0 m1 m2 m3 m5 "ValueError.__new__")) (hb : PySem.HandSPX.refsVE bm = true) (sa : PySem.W.findIn K (.ref C) "__setattr__" = some (some (.builtin "object.__setattr__")))
    (e : PySem.W.subIn K (.ref C) (.type "BaseException") = some true) (t : PySem.W.typeIn K (.ref C) = some (.type "type")) (k : PySem.W.keepIn K (.ref C) = true) : OexC K C := ⟨⟨nm, q, N, bs, bm, sn, sub, ab, col, dd, m0, m1, m2, m3, m5, xL, hb⟩, sa, e, t, k⟩
end
/-! tables of isinstance -/
abbrev KRow := TyK × CK × Bool
def ktOf (tab : List KRow) : KTab := fun t u => match t, u with
  | .b m, .b n => kitB m n
  | t, u => (tab.find? fun p => decide (p.1 = t ∧ p.2.1 = u)).map (·.2.2)
def KFact (K : PySem.W.Frag) (mg : Str → Option Value) (p : KRow) : Prop := (∃ tv uv, TyVal mg p.1 tv ∧ CkVal mg p.2.1 uv ∧ PySem.W.kitOne K tv uv = some p.2.2) ∧ match p.1 with
  | .b _ => True
  | .o c => ∃ ca, mg c = some (.ref ca) ∧ InsT K ca
  | .e c => ∃ ca, mg c = some (.ref ca) ∧ L2.ExcC K ca
theorem tyVal_inj {mg : Str → Option Value} {t : TyK} {a b : Value} (h : TyVal mg t a) (h' : TyVal mg t b) : a = b := by
  cases t with
  | b n => exact (show a = .type n from h).trans (show b = .type n from h').symm
  | o c =>
    obtain ⟨x, hx, rfl⟩ := h
    obtain ⟨y, hy, rfl⟩ := h'
    rw [hx] at hy
    cases hy
    rfl
  | e c =>
    obtain ⟨x, hx, rfl⟩ := h
    obtain ⟨y, hy, rfl⟩ := h'
    rw [hx] at hy
    cases hy
    rfl
theorem ckVal_inj {mg : Str → Option Value} {t : CK} {a b : Value} (h : CkVal mg t a) (h' : CkVal mg t b) : a = b := by
  cases t with
  | b n => exact (show a = .type n from h).trans (show b = .type n from h').symm
  | c c =>
    obtain ⟨x, hx, rfl⟩ := h
    obtain ⟨y, hy, rfl⟩ := h'
    rw [hx] at hy
    cases hy
    rfl
theorem kitT_of {K : PySem.W.Frag} {mg : Str → Option Value} {tab : List KRow} (h : ∀ p ∈ tab, KFact K mg p) : KitT K mg (ktOf tab) := by
  have look : ∀ {t : TyK} {u : CK} {b : Bool}, (tab.find? fun p => decide (p.1 = t ∧ p.2.1 = u)).map (·.2.2) = some b → KFact K mg (t, u, b) := fun {t u b} e => by
    obtain ⟨p, hp, rfl⟩ := Option.map_eq_some_iff.mp e
    have h1 := List.mem_of_find?_eq_some hp
    have h2 := List.find?_some hp
    obtain ⟨rfl, rfl⟩ := of_decide_eq_true h2
    exact h p h1
  have use : ∀ {t : TyK} {u : CK} {b : Bool}, KFact K mg (t, u, b) → ∀ tv uv, TyVal mg t tv → CkVal mg u uv → PySem.W.kitOne K tv uv = some b := fun {t u b} ⟨⟨tv, uv, h1, h2, h3⟩, _⟩ tv' uv' q1 q2 => by
    rw [← tyVal_inj h1 q1, ← ckVal_inj h2 q2]
    exact h3
  refine ⟨fun t u b e tv uv h1 h2 => ?_, fun c u b e ca hc => ?_, fun c u b e ca hc => ?_⟩
  · cases t with
    | b m =>
      cases u with
      | b n =>
        cases (show tv = .type m from h1)
        cases (show uv = .type n from h2)
        exact kit_ty e
      | c c => exact use (look e) tv uv h1 h2
    | o c => exact use (look e) tv uv h1 h2
    | e c => exact use (look e) tv uv h1 h2
  · obtain ⟨_, ca', h1, h2⟩ := look (t := .o c) e
    rw [hc] at h1
    cases h1
    exact h2
  · obtain ⟨_, ca', h1, h2⟩ := look (t := .e c) e
    rw [hc] at h1
    cases h1
    exact h2
theorem kfact_e {K : PySem.W.Frag} {mg : Str → Option Value} {c : Str} {n : String} {b : Bool} {ca : Addr} (m : mg c = some (.ref ca)) (e : L2.ExcC K ca) (k : PySem.W.kitOne K (.ref ca) (.type n) = some b) : KFact K mg (.e c, .b n, b) := ⟨⟨_, _, ⟨ca, m, rfl⟩, rfl, k⟩, ca, m, e⟩
theorem kfact_ec {K : PySem.W.Frag} {mg : Str → Option Value} {c d : Str} {b : Bool} {ca da : Addr} (m : mg c = some (.ref ca)) (m' : mg d = some (.ref da)) (e : L2.ExcC K ca) (k : PySem.W.kitOne K (.ref ca) (.ref da) = some b) : KFact K mg (.e c, .c d, b) := ⟨⟨_, _, ⟨ca, m, rfl⟩, ⟨da, m', rfl⟩, k⟩, ca, m, e⟩
theorem kfact_bc {K : PySem.W.Frag} {mg : Str → Option Value} {d : Str} {n : String} {b : Bool} {da : Addr} (m' : mg d = some (.ref da)) (k : PySem.W.kitOne K (.type n) (.ref da) = some b) : KFact K mg (.b n, .c d, b) := ⟨⟨_, _, rfl, ⟨da, m', rfl⟩, k⟩, trivial⟩
/-! kitB, told -/
theorem kitB_refl (n : String) (h : (Value.type n == Value.type n) = true) : kitB n n = some true := by unfold kitB; rw [if_pos h]
end DL

/-! DL: calls with keywords, defaults; defs that call themselves. -/
namespace DL
open PySem PySem.Spec PyProof.Rows L2

/-- items by their places -/
def pick {α : Type} : List Nat → List α → List α
  | [], _ => []
  | i :: is, l => match l[i]? with
    | some a => a :: pick is l
    | none => pick is l
section
variable {C : Ctx} {F : Hp} {ρ : Loc0}
theorem RepL.getN : ∀ {ds : List D} {vs : List V} {i : Nat}, RepL C F ρ ds vs → ds[i]? = none → vs[i]? = none
  | _, _, i, r, h => by
    rw [List.getElem?_eq_none_iff] at h ⊢
    rw [← r.length]
    exact h
theorem RepL.pick : ∀ {is : List Nat} {ds : List D} {vs : List V}, RepL C F ρ ds vs → RepL C F ρ (pick is ds) (pick is vs)
  | [], _, _, _ => .nil
  | i :: is, ds, vs, r => by
    unfold DL.pick
    cases e : ds[i]? with
    | none => rw [r.getN e]; exact RepL.pick r
    | some d =>
      obtain ⟨v, h1, h2⟩ := r.get e
      rw [h1]
      exact .cons h2 (RepL.pick r)
end
theorem vals_get : ∀ {vs : List V} {us : List Value} {i : Nat}, Vals vs us → (∃ v u, vs[i]? = some v ∧ us[i]? = some u ∧ RelV v u) ∨ (vs[i]? = none ∧ us[i]? = none)
  | [], _, i, .nil => .inr ⟨rfl, rfl⟩
  | v :: vs, _, 0, .cons h t => .inl ⟨v, _, rfl, rfl, h⟩
  | v :: vs, _, i + 1, .cons h t => by
    rw [List.getElem?_cons_succ, List.getElem?_cons_succ]
    exact vals_get t
theorem vals_pick : ∀ {is : List Nat} {vs : List V} {us : List Value}, Vals vs us → Vals (pick is vs) (pick is us)
  | [], _, _, _ => .nil
  | i :: is, vs, us, r => by
    unfold pick
    rcases vals_get (i := i) r with ⟨v, u, h1, h2, h3⟩ | ⟨h1, h2⟩
    · rw [h1, h2]
      exact .cons h3 (vals_pick r)
    · rw [h1, h2]
      exact vals_pick r
/-- a def that may be called with n values by place and the keywords ks; is tells where each parameter's value stands among the values by place, the keywords' values and the defaults dds -/
def OkC (P : Program) (w : World) (K : PySem.W.Frag) (mg : Str → Option Value) (base : Heap) (k : Nat) (x : Str) (n : Nat) (ks : List Str) (is : List Nat) (dds : List D) (sp : DSp) : Prop :=
  ∃ f fd ps, ∃ dvs : List V, ∃ its : List Value, mg x = some (.ref f) ∧ PySem.W.keepIn K (.ref f) = true ∧ FnG P w K mg base k f fd ps sp ∧ KBn K fd ps n ks (fun us ws => pick is (us ++ (ws ++ its))) (fun vs zs => pick is (vs ++ (zs ++ dvs))) ∧ ∀ F ρ, RepL ⟨K, mg⟩ F ρ dds dvs
theorem OkC.mono {P : Program} {w : World} {K : PySem.W.Frag} {mg : Str → Option Value} {base : Heap} {j k : Nat} {x : Str} {n : Nat} {ks : List Str} {is : List Nat} {dds : List D} {sp : DSp} (O : OkC P w K mg base j x n ks is dds sp) (h : j ≤ k) : OkC P w K mg base k x n ks is dds sp :=
  let ⟨f, fd, ps, dvs, its, h1, h2, h3, h4⟩ := O; ⟨f, fd, ps, dvs, its, h1, h2, h3.mono h, h4⟩
def cC (sp : DSp) (n m : Nat) (is : List Nat) (dds xs ys : List D) (κ : Kap) (X : Str → List D → Kap → Prop) (Q : DQ) : Prop := xs.length = n ∧ ys.length = m ∧ sp (pick is (xs ++ (ys ++ dds))) κ X Q
def dCallC (sp : DSp) (n m : Nat) (is : List Nat) (dds : List D) (as kw : DA) : DE := fun δ κ X Q => as δ κ X fun xs κ1 => kw δ κ1 X fun ys κ2 => cC sp n m is dds xs ys κ2 (X δ) Q
abbrev PKD (X : Cx) (W : WX) (kws : List Keyword) (d : DA) : Prop := PK X kws (liftA (CtxOf X) W d)
section
variable {X : Cx} {W : WX} {k n m : Nat} {f : Addr} {fd : FuncData} {ps ks : List Str} {is : List Nat} {sp : DSp} {dds : List D} {x : Str} {e : Expr} {es : List Expr} {kws : List Keyword} {as kw : DA} {a : DE} {p pos kpos : Pos} {nm : Option Str}
theorem pk_weak {t t' : TA} (h : PK X kws t) (w : ∀ σ H Q, t' σ H Q → t σ H Q) : PK X kws t' := ⟨fun pos pins s σ H Q I q => h.run pos pins s σ H Q I (w σ H Q q)⟩
theorem pk_nilD : PKD X W [] dNil := pk_weak pk_nil fun _ _ _ h => lift_nil h
theorem pk_consD (ha : PED X W e a) (hr : PKD X W kws kw) : PKD X W (⟨nm, e, kpos⟩ :: kws) (dCons a kw) := pk_weak (pk_cons ha hr) fun _ _ _ h => lift_cons h
theorem run_fnC {pins : List (Addr × Obj)} {σ : L2.St} {δ : DEnv} {H : Hp} {s : Shared} {Q : VK} {us ws its : List Value} {vs zs dvs : List V} {xs ys : List D} {F : Hp} {ρ : Loc0} {κ : Kap} {XD : DX} {QD : DQ} (G : Good k X W) (F1 : FnG X.prog X.w X.K X.mg X.base k f fd ps sp) (I : L2.Inv X pins σ H s)
    (hb : KBn X.K fd ps n ks (fun us ws => pick is (us ++ (ws ++ its))) (fun vs zs => pick is (vs ++ (zs ++ dvs)))) (hd : ∀ F ρ, RepL (CtxOf X) F ρ dds dvs) (r : Vals vs us) (rz : Vals zs ws)
    (S : StR (CtxOf X) F ρ κ H) (R : RepS (CtxOf X) F ρ δ σ) (rr : RepL (CtxOf X) F ρ xs vs) (rq : RepL (CtxOf X) F ρ ys zs) (h : cC sp n m is dds xs ys κ (XD δ) QD) (hm : ks.length = m) (P : Post (CtxOf X) F ρ QD Q) (PX : PostX (CtxOf X) F ρ XD W) : wpAny (model X.prog X.w) X.A (call (.ref f) us (ks.zip ws)) (EP X pins σ Q) X.xe s := by
  obtain ⟨h1, h2, h3⟩ := h
  have l1 : us.length = n := by rw [← Paired.length r, ← rr.length, h1]
  have l2 : ws.length = ks.length := by rw [← Paired.length rz, ← rq.length, h2, hm]
  have rep : RepL (CtxOf X) F ρ (pick is (xs ++ (ys ++ dds))) (pick is (vs ++ (zs ++ dvs))) := RepL.pick (rr.append (rq.append (hd F ρ)))
  refine wpAny_call (codeAny_mono (F1.run X.A X.stack s H ⟨us, ks.zip ws⟩ _ _ _ F ρ κ _ _ Q (fun cls dd H' => W cls dd σ H') G.rm G.gd I.env0 (hb.to s us ws I.kIn l1 l2) (hb.rel r rz) S rep h3 P fun F' ρ' κ' H' c fs cls dd e S' rx q => PX _ _ _ _ _ _ _ _ _ _ e S' (R.ext e) rx q) fun rs s' hq => ?_)
  cases rs with
  | error er => exact G.tk er s' (L2N.XE.of_call I (fun _ _ _ h => h) hq)
  | ok fl =>
    cases fl with
    | ret u => exact I.after hq
    | next => exact False.elim hq
    | brk => exact False.elim hq
    | cont => exact False.elim hq
theorem pd_callC (G : Good k X W) (O : OkC X.prog X.w X.K X.mg X.base k x n [] is dds sp) (ha : PAD X W (e :: es) as) (hg : Gl X x := by rfl) (hdb : (x == ("__debug__" : Str)) = false := by decide) (he : starEach (e :: es) X.env = (false, eval e X.env) :: starEach es X.env := by rfl)
    (hpl : (backTo pos (starEach es X.env)).any (·.1) = false := by rfl) : PED X W (.Call (.Name x p) (e :: es) [] pos) (dCallC sp n 0 is dds as dNil) := by
  obtain ⟨f, fd, ps, dvs, its, hm, hk, F1, hb, hd⟩ := O
  refine ⟨fun pins s σ H Q I ⟨F, ρ, κ, δ, XD, QD, S, R, h, P, PX⟩ => ?_⟩
  refine wpAny_Call_Name_kw (ld_glob I hg hm ?_ hdb)
  refine PySem.W.callWith_K (h₀ := X.base) I.ok.mod.kin hk (thn (ha.run pos pins s σ H (fun vs H1 => ∃ F1 ρ1 κ1 xs, Ext F ρ F1 ρ1 ∧ StR (CtxOf X) F1 ρ1 κ1 H1 ∧ RepL (CtxOf X) F1 ρ1 xs vs ∧ cC sp n 0 is dds xs [] κ1 (XD δ) QD) I
    ⟨F, ρ, κ, δ, XD, _, S, R, h, fun F1 ρ1 κ1 H1 xs vs e1 S1 R1 h1 => ⟨F1, ρ1, κ1, xs, e1, S1, R1, h1⟩, PX⟩) fun us s1 ⟨vs, H1, I1, r1, F2, ρ1, κ1, xs, e1, S1, R1, h1⟩ => ⟨I1.kIn, ?_⟩) he hpl
  exact run_fnC G F1 I1 hb hd r1 .nil S1 (R.ext e1) R1 .nil h1 rfl (P.ext e1) (PX.ext e1)
theorem pd_callCK (G : Good k X W) (O : OkC X.prog X.w X.K X.mg X.base k x n ks is dds sp) (ha : PAD X W (e :: es) as) (hkw : PKD X W kws kw) (hg : Gl X x := by rfl) (hdb : (x == ("__debug__" : Str)) = false := by decide) (he : starEach (e :: es) X.env = (false, eval e X.env) :: starEach es X.env := by rfl)
    (hall : (backToKw pos (keywordEach kws X.env)).all (·.1.isSome) = true := by rfl) (hks : (backToKw pos (keywordEach kws X.env)).filterMap (·.1) = ks := by rfl)
    (hpl : ((backTo pos (starEach (e :: es) X.env)).any (·.1) || (backToKw pos (keywordEach kws X.env)).any (·.1.isNone)) = false := by rfl) : PED X W (.Call (.Name x p) (e :: es) kws pos) (dCallC sp n ks.length is dds as kw) := by
  obtain ⟨f, fd, ps, dvs, its, hm, hk, F1, hb, hd⟩ := O
  refine ⟨fun pins s σ H Q I ⟨F, ρ, κ, δ, XD, QD, S, R, h, P, PX⟩ => ?_⟩
  refine wpAny_Call_Name_kw (ld_glob I hg hm ?_ hdb)
  refine PySem.W.callWith_KW (h₀ := X.base) I.ok.mod.kin hk hall (thn (ha.run pos pins s σ H (fun vs H1 => ∃ F1 ρ1 κ1 xs, Ext F ρ F1 ρ1 ∧ StR (CtxOf X) F1 ρ1 κ1 H1 ∧ RepL (CtxOf X) F1 ρ1 xs vs ∧ kw δ κ1 XD fun ys κ2 => cC sp n ks.length is dds xs ys κ2 (XD δ) QD) I
    ⟨F, ρ, κ, δ, XD, _, S, R, h, fun F1 ρ1 κ1 H1 xs vs e1 S1 R1 h1 => ⟨F1, ρ1, κ1, xs, e1, S1, R1, h1⟩, PX⟩) fun us s1 ⟨vs, H1, I1, r1, F2, ρ1, κ1, xs, e1, S1, R1, h1⟩ => ?_) hpl he
  refine thn (hkw.run pos pins s1 σ H1 (fun zs H2 => ∃ F3 ρ3 κ3 ys, Ext F2 ρ1 F3 ρ3 ∧ StR (CtxOf X) F3 ρ3 κ3 H2 ∧ RepL (CtxOf X) F3 ρ3 ys zs ∧ cC sp n ks.length is dds xs ys κ3 (XD δ) QD) I1
    ⟨F2, ρ1, κ1, δ, XD, _, S1, R.ext e1, h1, fun F3 ρ3 κ3 H3 ys zs e3 S3 R3 h3 => ⟨F3, ρ3, κ3, ys, e3, S3, R3, h3⟩, PX.ext e1⟩) fun ws s2 ⟨zs, H2, I2, rz, F3, ρ3, κ3, ys, e3, S3, R3, h3⟩ => ⟨I2.kIn, ?_⟩
  rw [hks]
  exact run_fnC G F1 I2 hb hd r1 rz S3 (R.ext (e1.trans e3)) (R1.ext e3) R3 h3 rfl (P.ext (e1.trans e3)) (PX.ext (e1.trans e3))
theorem pd_callCK0 (G : Good k X W) (O : OkC X.prog X.w X.K X.mg X.base k x 0 ks is dds sp) (hkw : PKD X W kws kw) (hg : Gl X x := by rfl) (hdb : (x == ("__debug__" : Str)) = false := by decide)
    (hall : (backToKw pos (keywordEach kws X.env)).all (·.1.isSome) = true := by rfl) (hks : (backToKw pos (keywordEach kws X.env)).filterMap (·.1) = ks := by rfl)
    (hpl : ((backTo pos (starEach [] X.env)).any (·.1) || (backToKw pos (keywordEach kws X.env)).any (·.1.isNone)) = false := by rfl) : PED X W (.Call (.Name x p) [] kws pos) (dCallC sp 0 ks.length is dds dNil kw) := by
  obtain ⟨f, fd, ps, dvs, its, hm, hk, F1, hb, hd⟩ := O
  refine ⟨fun pins s σ H Q I ⟨F, ρ, κ, δ, XD, QD, S, R, h, P, PX⟩ => ?_⟩
  refine wpAny_Call_Name_kw (ld_glob I hg hm ?_ hdb)
  refine PySem.W.callWith_KW0 (h₀ := X.base) I.ok.mod.kin hk hall (thn (hkw.run pos pins s σ H (fun zs H2 => ∃ F3 ρ3 κ3 ys, Ext F ρ F3 ρ3 ∧ StR (CtxOf X) F3 ρ3 κ3 H2 ∧ RepL (CtxOf X) F3 ρ3 ys zs ∧ cC sp 0 ks.length is dds [] ys κ3 (XD δ) QD) I
    ⟨F, ρ, κ, δ, XD, _, S, R, h, fun F3 ρ3 κ3 H3 ys zs e3 S3 R3 h3 => ⟨F3, ρ3, κ3, ys, e3, S3, R3, h3⟩, PX⟩) fun ws s2 ⟨zs, H2, I2, rz, F3, ρ3, κ3, ys, e3, S3, R3, h3⟩ => ⟨I2.kIn, ?_⟩) hpl
  rw [hks]
  exact run_fnC G F1 I2 hb hd .nil rz S3 (R.ext e3) .nil R3 h3 rfl (P.ext e3) (PX.ext e3)
end
/-! a def without defaults, called with keywords -/
section
variable {P : Program} {w : World} {K : PySem.W.Frag} {mg : Str → Option Value} {base : Heap}
theorem okC_of {x : Str} {st : Stmt} {f : Addr} {fd : FuncData} {ps ks : List Str} {k n : Nat} {is : List Nat} {sp : DSp} (D : DefAt K mg x st f fd) (F1 : FnG P w K mg base k f fd ps sp)
    (hbind : ∀ (kV doc pm : Value) (an : Option Addr) (cdv ct : Value) (us ws : List Value), us.length = n → ws.length = ks.length → bindArgs (PySem.W.fnOf x x (defArgs st) (defBody st) (defScope st) .none kV doc pm an cdv ct) ⟨us, ks.zip ws⟩ = pure (ps.zip (pick is (us ++ (ws ++ []))))) :
    OkC P w K mg base k x n ks is [] sp := by
  obtain ⟨oc, od, kV, doc, pm, an, cdv, ct, osl, rfl, lk, hcd⟩ := D.F.ex
  exact ⟨f, _, ps, [], [], D.m, D.F.kp, F1, ⟨fun s us ws _ l1 l2 => .of_eq (hbind kV doc pm an cdv ct us ws l1 l2), fun r1 r2 => vals_pick (r1.append (r2.append .nil))⟩, fun _ _ => .nil⟩
theorem fnG_no {f : Addr} {fd : FuncData} {ps : List Str} {k : Nat} : FnG P w K mg base k f fd ps (fun _ _ _ _ => False) :=
  ⟨fun _ _ _ _ h => h.elim, fun _ _ _ _ _ _ _ _ _ _ _ _ _ _ _ _ _ _ _ _ _ _ h => h.elim⟩
theorem ok_mk {x : Str} {st : Stmt} {f : Addr} {fd : FuncData} {ps : List Str} {k : Nat} {sp : DSp} (D : DefAt K mg x st f fd) (F1 : FnG P w K mg base k f fd ps sp)
    (hbind : ∀ (kV doc pm : Value) (an : Option Addr) (cdv ct : Value) (us : List Value), us.length = ps.length → bindArgs (PySem.W.fnOf x x (defArgs st) (defBody st) (defScope st) .none kV doc pm an cdv ct) ⟨us, []⟩ = pure (ps.zip us)) : Ok P w K mg base k x ps sp :=
  ⟨f, fd, D.m, D.F.kp, F1, D.F.binds hbind⟩
end
end DL

/-! DLk: defs with defaults. -/
namespace DL
open PySem PySem.Spec PyProof.Rows L2
/-- where a def with defaults stands -/
structure DefD (K : PySem.W.Frag) (mg : Str → Option Value) (x : Str) (st : Stmt) (f : Addr) (fd : FuncData) (dvs : List V) (kws : List (Str × V)) : Prop where
  m : mg x = some (.ref f)
  F : FunD K x x (defArgs st) (defBody st) (defScope st) dvs kws f fd
section
variable {P : Program} {w : World} {K : PySem.W.Frag} {mg : Str → Option Value} {base : Heap}
/-- THE RULE for a def with defaults -/
theorem Fn_okD {x qual : Str} {st : Stmt} {dvs : List V} {kws : List (Str × V)} {f : Addr} {fd : FuncData} {N ps : List Str} {k : Nat} {b : DS} (F : FunD K x qual (defArgs st) (defBody st) (defScope st) dvs kws f fd) (S : FnScope N ps (defScope st)) (sm : ∃ o, base.get? sysModules = some o)
    (hbody : ∀ (cdv : Value) (A : Around) (outer : List Env) (s : Shared) (H : Hp) (E : XK), Good k (cxD P w K mg base N qual (defScope st) f cdv A outer s H E) (wxE E) → PSsD (cxD P w K mg base N qual (defScope st) f cdv A outer s H E) (wxE E) (defBody st) b) :
    FnG P w K mg base (k + 1) f fd ps (spOf N.length ps.length b) := by
  refine ⟨fun ds κ XD Q h => h.1, fun A outer s H args us vs ds F0 ρ κ XD QD Q E hr hg e0 hb rv S0 R0 hsp PQ PE => ?_⟩
  obtain ⟨oc, od, dV, kV, doc, pm, an, cdv, ct, osl, rfl, lk, hcd, _, _⟩ := F.ex
  have hl : vs.length = ps.length := by rw [← R0.length, hsp.1]
  have KX : K.In s.heap := e0.mod.kin.keeps fun b o e => (e0.bs b o e).1
  have lim : s.heap.NoLimit := e0.mod.nolimit.keeps fun b o e => (e0.bs b o e).1
  have kinds : ∀ y ∈ ps.zip us, (defScope st).names.lookup y.1 = some .local ∨ ((defScope st).names.lookup y.1 = some .cell ∧ ((cellsFrom (s.heap.objs.size + 1) (defScope st).names []).lookup y.1).isSome = true) := fun y hy => by
    rcases S.par y.1 (List.of_mem_zip (a := y.1) (b := y.2) hy).1 with q | q
    · exact .inl q
    · exact .inr ⟨q, PySem.W.cellsFrom_some _ _ _ (.inl q)⟩
  refine codeAny_call_function hr.depth (KX _ _ lk) rfl S.co S.gen rfl (PySem.W.codeRec_of KX hcd) (hb _ _ _ _ (wpAny_newFunctionEnv_cells S.kind kinds fun env he s1 x => ?_))
  subst he
  refine ⟨lim.keeps x.toInCall.keep, codeAny_func ?_⟩
  have I := inv_start (CX := L2N.CX P w) (N := N) (qual := qual) (E := E) (f := f) (cd := cdv) S hr.hd e0 hl rv x
  have g : Good k (cxD P w K mg base N qual (defScope st) f cdv A outer s H E) (wxE E) :=
    ⟨L2N.takes_of rfl rfl rfl rfl, passes_of rfl, hr.deeper _, hg, sm, rfl, S.nd⟩
  refine wpAny_mono ((hbody cdv A outer s H E g).run [] s1 _ H ⟨fun _ H' => Q .non H', Q, fun _ _ => False, fun _ _ => False⟩ I
    ⟨F0, ρ, κ, startD N.length ds, _, _, S0, repS_start R0, hsp.2, ⟨fun F' ρ' κ' H' δ σ e S R q => PQ _ _ _ _ _ _ e S .non q, PQ, fun _ _ _ _ _ _ _ _ _ z => z.elim, fun _ _ _ _ _ _ _ _ _ z => z.elim⟩,
      fun F' ρ' κ' H' δ σ c fs cls dd e S R rx q => PE _ _ _ _ _ _ _ _ e S rx q⟩) (fun fl s' hs => ?_) fun e s' hs => hs
  cases fl with
  | ret u =>
    obtain ⟨v, σ', H', J, rv', q⟩ := hs
    exact ⟨v, H', J.os, J.bare, J.base, J.hok, rv', q⟩
  | next =>
    obtain ⟨σ', H', J, q⟩ := hs
    exact ⟨.non, H', J.os, J.bare, J.base, J.hok, rfl, q⟩
  | brk => obtain ⟨_, _, _, q⟩ := hs; exact q.elim
  | cont => obtain ⟨_, _, _, q⟩ := hs; exact q.elim

variable {x : Str} {st : Stmt} {f : Addr} {fd : FuncData} {ps ks : List Str} {k n : Nat} {is : List Nat} {sp : DSp} {dds : List D} {dvs : List V} {kws : List (Str × V)}
theorem okC_d (D : DefD K mg x st f fd dvs kws) (F1 : FnG P w K mg base k f fd ps sp) (hd : dvs ≠ []) (hdd : ∀ F ρ, RepL ⟨K, mg⟩ F ρ dds dvs)
    (h : ∀ (T : Addr) (kV doc pm : Value) (an : Option Addr) (cdv ct : Value) (us its ws : List Value), us.length = n → its.length = dvs.length → ws.length = ks.length →
      ∃ k, bindArgs (PySem.W.fnOf x x (defArgs st) (defBody st) (defScope st) (.ref T) kV doc pm an cdv ct) ⟨us, ks.zip ws⟩ = seqItems? (.ref T) >>= k ∧ k (some its.toArray) = pure (ps.zip (pick is (us ++ (ws ++ its))))) :
    OkC P w K mg base k x n ks is dds sp := by
  obtain ⟨its, hb⟩ := D.F.kbindsD n ks (fun us its ws => pick is (us ++ (ws ++ its))) hd (fun r1 r2 r3 => vals_pick (r1.append (r3.append r2))) h
  exact ⟨f, fd, ps, dvs, its, D.m, D.F.kp, F1, hb, hdd⟩
theorem okC_k (D : DefD K mg x st f fd [] kws) (F1 : FnG P w K mg base k f fd ps sp) (ms : List (Str × V)) (hk : kws ≠ []) (hms : ∀ q ∈ ms, q ∈ kws) (hdd : ∀ F ρ, RepL ⟨K, mg⟩ F ρ dds (ms.map (·.2)))
    (h : ∀ (Da : Addr) (doc pm : Value) (an : Option Addr) (cdv ct : Value) (us mv ws : List Value), us.length = n → mv.length = ms.length → ws.length = ks.length →
      KwChain Da ((ms.map (·.1)).zip mv) (bindArgs (PySem.W.fnOf x x (defArgs st) (defBody st) (defScope st) .none (.ref Da) doc pm an cdv ct) ⟨us, ks.zip ws⟩) (ps.zip (pick is (us ++ (ws ++ mv))))) :
    OkC P w K mg base k x n ks is dds sp := by
  obtain ⟨mv, hb⟩ := D.F.kbinds0 n ks ms (fun us mv ws => pick is (us ++ (ws ++ mv))) hk hms (fun r1 r2 r3 => vals_pick (r1.append (r3.append r2))) h
  exact ⟨f, fd, ps, ms.map (·.2), mv, D.m, D.F.kp, F1, hb, hdd⟩
theorem okC_dk (D : DefD K mg x st f fd dvs kws) (F1 : FnG P w K mg base k f fd ps sp) (ms : List (Str × V)) (hd : dvs ≠ []) (hk : kws ≠ []) (hms : ∀ q ∈ ms, q ∈ kws) (hdd : ∀ F ρ, RepL ⟨K, mg⟩ F ρ dds (dvs ++ ms.map (·.2)))
    (h : ∀ (T Da : Addr) (doc pm : Value) (an : Option Addr) (cdv ct : Value) (us its mv ws : List Value), us.length = n → its.length = dvs.length → mv.length = ms.length → ws.length = ks.length →
      ∃ k, bindArgs (PySem.W.fnOf x x (defArgs st) (defBody st) (defScope st) (.ref T) (.ref Da) doc pm an cdv ct) ⟨us, ks.zip ws⟩ = seqItems? (.ref T) >>= k ∧ KwChain Da ((ms.map (·.1)).zip mv) (k (some its.toArray)) (ps.zip (pick is (us ++ (ws ++ (its ++ mv)))))) :
    OkC P w K mg base k x n ks is dds sp := by
  obtain ⟨its, mv, hb⟩ := D.F.kbinds n ks ms (fun us its mv ws => pick is (us ++ (ws ++ (its ++ mv)))) hd hk hms (fun r1 r2 r3 r4 => vals_pick (r1.append (r4.append (r2.append r3)))) h
  exact ⟨f, fd, ps, dvs ++ ms.map (·.2), its ++ mv, D.m, D.F.kp, F1, by simpa only [List.append_assoc] using hb, hdd⟩
theorem defD_of {h : Heap} {x : Str} {f : Addr} {oc : Value} {od an : Option Addr} {osl : Array (Option Value)} {dV kV doc pm cdv ct : Value} {dvs : List V} {kws : List (Str × V)} (X : K.In h) (G : h.Ns mainGlobals mg) (a : PySem.W.nsIn K mainGlobals x = some (some (.ref f)))
    (l : K.lookup f = some ⟨oc, od, .func (PySem.W.fnOf x x (defArgs st) (defBody st) (defScope st) dV kV doc pm an cdv ct), osl⟩) (c : PySem.W.codeIn K cdv x = true) (k : PySem.W.keepIn K (.ref f) = true) (hd : DflV K dV dvs) (hk : KwdV K kV kws) :
    DefD K mg x st f (PySem.W.fnOf x x (defArgs st) (defBody st) (defScope st) dV kV doc pm an cdv ct) dvs kws := ⟨PySem.W.mg_of X G a, ⟨⟨oc, od, dV, kV, doc, pm, an, cdv, ct, osl, rfl, l, c, hd, hk⟩, k⟩⟩
theorem dfl_of {T : Addr} {cls : Value} {dd : Option Addr} {its : List Value} {m : Nat} {sl : Array (Option Value)} (h : dvs ≠ []) (l : K.lookup T = some ⟨cls, dd, .seq its.toArray m, sl⟩) (r : Vals dvs its) : DflV K (.ref T) dvs := .inr ⟨h, T, _, its, m, rfl, l, rfl, r⟩
theorem dfl_no : DflV K .none [] := .inl ⟨rfl, rfl⟩
theorem kwd_no {kV : Value} : KwdV K kV [] := .inl rfl
theorem kwd_of {Da : Addr} (h : ∀ q ∈ kws, ∃ u, PySem.W.nsIn K Da q.1 = some (some u) ∧ RelV q.2 u) : KwdV K (.ref Da) kws := .inr ⟨Da, rfl, h⟩
end
end DL

/-! DLm: raise, try. -/
namespace DL
open PySem PySem.Spec PyProof.Rows L2
/-! ### raise -/
/-- an exception's fields, name and value in turn -/
def xfl : List Str → List D → List D
  | n :: ns, d :: ds => .str n :: d :: xfl ns ds
  | _, _ => []
theorem xfl_rep {C : Ctx} {F : Hp} {ρ : Loc0} : ∀ {ns : List Str} {ds : List D} {vs : List V}, RepL C F ρ ds vs → RepL C F ρ (xfl ns ds) (xflat (ns.zip vs))
  | [], _, _, _ => .nil
  | _ :: _, _, _, .nil => .nil
  | n :: ns, _, _, .cons h t => .cons (.str n) (.cons h (xfl_rep t))
/-! ### an own exception, made where none is handled: its context is None -/
abbrev mkHp (h : Heap) (C : Addr) (us : List Value) : Heap := (h.push (PySem.W.kdv_tup us)).push (PySem.HandSPX.excO C h.objs.size)
theorem pmk_oexN {X : Cx} {CX : CXT} {x : Str} {C fI : Addr} {k : Nat} {fd : FuncData} {ps : List Str} {sp : L2.Sp} {e : Expr} {es : List Expr} {ta : TA} {p pos : Pos}
    (T : OexC X.K C) (findI : PySem.W.findIn X.K (.ref C) "__init__" = some (some (.ref fI))) (typeI : PySem.W.typeIn X.K (.ref fI) = some (.type "function")) (fn : FnOk X.prog X.w X.K X.mg X.base CX k fI fd ps sp)
    (room : Room (k + 1) X.A) (binds : Binds X.K fd ps []) (pass : Passes CX X (fun _ _ _ => False)) (gl : Gl X x) (top : X.mg x = some (.ref C)) (args : PA X (e :: es) ta) (nodbg : (x == ("__debug__" : Str)) = false)
    (star : starEach (e :: es) X.env = (false, eval e X.env) :: starEach es X.env) (plain : (backTo pos (starEach es X.env)).any (·.1) = false) : L2N.PMk X (.Call (.Name x p) (e :: es) [] pos) (tMkO C sp [] ta) := by
  intro pins s σ H Q I todo
  have cls := T.cls
  obtain ⟨_, _, _, _, bm, _, _, _, _, _, _, _, _, _, _, atC, inBm⟩ := cls
  refine wpAny_Call_Name_kw
    (ld_glob I gl top ?_ nodbg)
  refine PySem.W.callWith_K (h₀ := X.base) I.ok.mod.kin T.kC
    (thn (args.run pos pins s σ H _ I todo) ?_) star plain
  rintro us ⟨hp, g, dr, tk, os⟩ ⟨vs, H1, I1, rel, small, next⟩
  refine ⟨I1.kIn, ?_⟩
  show wpAny _ _ (call (.ref C) us) _ _ _
  generalize ea : hp.objs.size + 1 = a
  have fits : hp.objs.size ≤ a := by omega
  have new : H1 a = none := I1.hok.fresh fits
  have here := next a new
  rw [List.append_nil] at here
  have grows : ∀ b o, hp.get? b = some o → (mkHp hp C us).get? b = some o :=
    fun b o z => Heap.get?_push_of_some _ (Heap.get?_push_of_some _ z)
  have stands : (mkHp hp C us).get? a = some (PySem.HandSPX.excO C hp.objs.size) := by
    rw [← ea]
    heap_get
  have J := I1.laid (t' := tk) (a := a) (o := exo a C none) (h' := mkHp hp C us) grows fits (exo_ok stands)
  have rel2 : Vals (V.ref a :: vs) (Value.ref a :: us) := .cons rfl rel
  have count : (Value.ref a :: us ++ []).length = ps.length := by
    have z := rel2.length
    rw [fn.len _ _ _ _ here] at z
    rw [List.append_nil]
    exact z.symm
  have few : us.length ≤ sizeLine := by
    have := Paired.length rel
    have : sizeLine = 16777216 := sizeLine_eq
    omega
  have bound := binds _ (Value.ref a :: us) J.kIn count
  rw [List.append_nil] at bound
  have walked := fn.run _ X.stack _ _ ⟨Value.ref a :: us, []⟩ (Value.ref a :: us) _ _ (fun _ _ _ => False) (room.make C us []) (J.env0.make C us []) bound rel2 here
  subst ea
  refine wpAny_call (PySem.HandSPX.call_own F.excBase_ValueError (fun Y => PySem.HandSPX.refsVE_contains Y bm inBm) (I1.kIn _ _ atC) (PySem.W.looks_findIn I1.kIn findI)
    (fun self => PySem.W.bind_fn I1.kIn self typeI) few (codeAny_mono walked fun r s' done => ?_))
  match r, done with
  | .error er, done => exact pass pins σ _ _ er s' J done
  | .ok .next, done | .ok .brk, done | .ok .cont, done => exact done.elim
  | .ok (.ret u), ⟨v, H2, sameOs, bare, un, ok, rv, isNon, d, fs, atA, atD, freeD, want⟩ =>
    subst isNon
    obtain ⟨h2, g2, d2, t2, os'⟩ := s'
    obtain ⟨t0, G, J2, back, goneA, obj, off⟩ := mk_end0 (d2 := d2) (t2 := t2) I1 fits grows un ok sameOs bare atA atD freeD
    exact ⟨rv, _, _, _, ⟨G, g2, d2, t2, os'⟩, _, .ref C, some d, rfl, J2, back, goneA, obj, ⟨rfl, rfl, fun ws z => by cases z; rfl⟩, rfl, rfl, off, rfl, bare, raises_own T.exC T.tyC, want⟩
def sRz (c : Str) (ns : List Str) (as : DA) : DS := fun δ κ X T => as δ κ X fun xs κ1 => xs.length = ns.length ∧ xs.length ≤ 100 ∧ X δ c (xfl ns xs.reverse) κ1
section
variable {X : Cx} {W : WX} {k : Nat} {c : Str} {ns : List Str} {e : Expr} {es : List Expr} {as : DA} {p pos pos2 : Pos}
theorem sd_raise (G : Good (k + 2) X W) (O : ExOk X.prog X.w X.K X.mg X.base c ns) (hne : ns ≠ []) (ha : PAD X W (e :: es) as) (hgl : Gl X c := by rfl) (hdb : (c == ("__debug__" : Str)) = false := by decide)
    (he : starEach (e :: es) X.env = (false, eval e X.env) :: starEach es X.env := by rfl) (hpl : (backTo pos (starEach es X.env)).any (·.1) = false := by rfl) : PSD X W (.Raise (some (.Call (.Name c p) (e :: es) [] pos)) none pos2) (sRz c ns as) := by
  obtain ⟨ca, fI, fd, ps, sp, M, hg, hf⟩ := O
  refine ps_weak (L2N.ps_raise G.calm G.tk (pmk_oexN (ta := fun σ H Q => liftA (CtxOf X) W as σ H Q) M.ox M.ini M.ty M.fn (G.rm.mono (by omega : 2 ≤ k + 2)) M.bd (fun _ _ _ _ _ _ _ z => z.elim) hgl M.m ha hdb he hpl)) ?_
  rintro T σ H ⟨F, ρ, κ, δ, XD, DD, S, R, h, P, PX⟩
  refine ⟨F, ρ, κ, δ, XD, _, S, R, h, ?_, PX⟩
  rintro F1 ρ1 κ1 H1 xs vs e1 S1 R1 ⟨hn, h100, hX⟩
  have lv : vs.length = ns.length := by rw [← R1.length, hn]
  refine ⟨by rw [← R1.length]; omega, fun a na => ?_⟩
  rw [List.append_nil]
  refine hg a ca vs _ _ _ lv M.ox hf upd_same ⟨fun z => absurd z hne, fun _ dx hdx hda => ⟨rfl, dx, ns.zip vs.reverse, upd_same, by rw [upd_ne hda]; exact upd_same, by rw [upd_ne hda] at hdx; exact hdx, ?_⟩⟩
  have hdx' : H1 dx = none := by rw [upd_ne hda] at hdx; exact hdx
  obtain ⟨ex, S2⟩ := S1.laid (p := dx) (o := .xd (ns.zip vs.reverse)) hdx'
  have eH : upd (del (upd (upd (upd H1 a (exo a ca none)) dx (exd dx (ns.zip vs.reverse))) a (exo a ca (some dx))) a) dx (.xd (ns.zip vs.reverse)) = upd H1 dx (.xd (ns.zip vs.reverse)) := by
    funext b
    by_cases e1 : b = dx
    · rw [e1, upd_same, upd_same]
    · rw [upd_ne e1, upd_ne e1]
      by_cases e2 : b = a
      · rw [e2, del_same, na]
      · rw [del_ne e2, upd_ne e2, upd_ne e1, upd_ne e2]
  rw [eH]
  exact PX _ _ _ _ _ _ _ _ _ _ (e1.trans ex) S2 (R.ext (e1.trans ex)) ⟨⟨M.m, ca, rfl⟩, _, xfl_rep ((R1.ext ex).reverse), .inr ⟨dx, _, rfl, upd_same, rfl⟩⟩ hX
end
/-! ### except: the field of what was caught -/
def fldOf (f : Str) : List D → Option D
  | .str n :: d :: r => if n = f then some d else fldOf f r
  | _ => none
/-- which fields may be read of which caught class -/
def XfOk (K : PySem.W.Frag) (mg : Str → Option Value) (xf : Str → Str → Bool) : Prop := ∀ c f, xf c f = true → ∃ C, mg c = some (.ref C) ∧ XfC K C ∧ PySem.W.findIn K (.ref C) f = some none
theorem fldOf_lookup {C : Ctx} {F : Hp} {ρ : Loc0} {f : Str} : ∀ {fs : List (Str × V)} {ds : List D} {d : D}, RepL C F ρ ds (xflat fs) → fldOf f ds = some d → ∃ v, fs.lookup f = some v ∧ Rep C F ρ d v
  | [], _, _, .nil, h => by cases h
  | (n, v) :: fs, _, d, .cons (.str _) (.cons (d := d1) h1 t), h => by
    have h' : (if n = f then some d1 else fldOf f _) = some d := h
    by_cases e : n = f
    · rw [if_pos e] at h'
      cases h'
      exact ⟨v, by rw [e, List.lookup_cons]; simp, h1⟩
    · rw [if_neg e] at h'
      obtain ⟨w, h2, h3⟩ := fldOf_lookup t h'
      refine ⟨w, ?_, h3⟩
      rw [List.lookup_cons]
      have : (f == n) = false := by
        cases q : (f == n) with
        | false => rfl
        | true => exact absurd (eq_of_beq q).symm e
      rw [this]
      exact h2
/-- what a suite knows of the caught one -/
structure Caught (X : Cx) (a C : Addr) (dd : Option Addr) (oe : Obj) : Prop where
  z : L2N.Zn (.ref C) dd oe
  f : ∃ vs, oe.data = .fields vs
section
variable {X : Cx} {W : WX} {a C : Addr} {dd : Option Addr} {oe : Obj} {pn : List (Addr × Obj)} {x f : Str} {p pos : Pos} {i : Nat} {xf : Str → Str → Bool}
def dXf (xf : Str → Str → Bool) (i : Nat) (f : Str) (a C : Addr) (dd : Option Addr) : DE := fun δ κ _ QD => ∃ c fs d, δ[i]? = some (some (.node (.cau c a C dd) fs)) ∧ xf c f = true ∧ fldOf f fs = some d ∧ QD d κ
theorem pd_xf (T : XfOk X.K X.mg xf) (Z : Caught X a C dd oe) (hi : X.N[i]? = some x := by rfl) (hx : (X.env.scope.names.lookup x) = some .local := by rfl)
    (hdb : (x == ("__debug__" : Str)) = false := by decide) (hdc : (x == ("__classdict__" : Str)) = false := by decide) (hb : attributeBase (.Name x p) f X.env (eval (.Name x p) X.env) = eval (.Name x p) X.env := by rfl) :
    PED (X.suite a ((a, oe) :: pn)) W (.Attribute (.Name x p) f pos) (dXf xf i f a C dd) := by
  refine ⟨fun pins s σ H Q I ⟨F, ρ, κ, δ, XD, QD, S, R, ⟨c, fs, d, hδ, hxf, hfl, hQ⟩, P, PX⟩ => ?_⟩
  obtain ⟨C', h1, h2, h3⟩ := T c f hxf
  obtain ⟨v, hv, rv⟩ := R.2 i _ hδ
  cases rv with
  | @node _ _ a2 vs hk rl =>
    obtain ⟨e1, e2, e3⟩ := hk
    subst e1
    rw [show (CtxOf X).mg c = X.mg c from rfl, h1] at e2
    cases e2
    rcases e3 with ⟨e3, e4⟩ | ⟨d2, fs2, e3, e4, e5⟩
    · subst e4
      cases rl
      cases hfl
    · subst e5
      obtain ⟨w, hw, rw'⟩ := fldOf_lookup rl hfl
      exact (pe_xf (pn := pn) h2 h3 Z.z.zc Z.f (pe_var (X := X.suite a2 ((a2, oe) :: pn)) (i := i) (x := x) hi (.inl hx) hdb hdc) hb).run pins s σ H Q I ⟨_, hv, rfl, rfl, d2, fs2, w, e3, S.sub _ _ e4, hw, P _ _ _ _ _ _ (Ext.refl _ _) S rw' hQ⟩
end
end DL

/-! DLn: try, clauses with names and without. -/
namespace DL
open PySem PySem.Spec PyProof.Rows L2
/-- a clause: the class's value, the slot of its name, what its suite does -/
structure Hd where
  c : Value
  i : Option Nat
  ts : Addr → Value → Option Addr → TS
def endsG (D : Ends) (i : Nat) : Ends := { nx := fun τ G => D.nx (τ.set i none) G, rt := D.rt, bk := fun τ G => D.bk (τ.set i none) G, ct := fun τ G => D.ct (τ.set i none) G }
def Hd.go (h : Hd) (D : Ends) (a : Addr) (cls : Value) (d : Option Addr) (σ : L2.St) (H : Hp) : Prop := match h.i with
  | none => h.ts a cls d D σ H
  | some i => h.ts a cls d (endsG D i) (σ.set i (some (.ref a))) H
def wantG (K : PySem.W.Frag) (Wo : WX) (D : Ends) : List Hd → WX
  | [] => Wo
  | h :: l => fun cls d σ H => ∃ b, PySem.W.exmOne K cls h.c = some b ∧ (b = true → ∀ a, H a = none → h.go D a cls d σ H) ∧ (b = false → wantG K Wo D l cls d σ H)
/-- what is known of a clause's suite -/
def SuiteG (X : Cx) (suite : List Stmt) (ts : Addr → Value → Option Addr → TS) : Prop := ∀ (a : Addr) (oe : Obj) (cls : Value) (d : Option Addr) (pn : List (Addr × Obj)), L2N.Zn cls d oe → (∃ vs, oe.data = .fields vs) → PSs (X.suite a ((a, oe) :: pn)) suite (ts a cls d)
inductive HdsG (X : Cx) : List ExceptHandler → List Hd → Prop
  | nil : HdsG X [] []
  | one {x : Str} {c : Value} {ts : Addr → Value → Option Addr → TS} {s0 : Stmt} {suite : List Stmt} {q q' : Pos} {hds : List ExceptHandler} {l : List Hd} (n : Names X x c) (u : SuiteG X (s0 :: suite) ts) (r : HdsG X hds l) : HdsG X (.ExceptHandler (some (.Name x q)) none (s0 :: suite) q' :: hds) (⟨c, none, ts⟩ :: l)
  | asn {x y : Str} {c : Value} {i : Nat} {ts : Addr → Value → Option Addr → TS} {s0 : Stmt} {suite : List Stmt} {q q' : Pos} {hds : List ExceptHandler} {l : List Hd} (n : Names X x c) (hi : X.N[i]? = some y) (hk : X.env.kindOf y = some .local) (u : SuiteG X (s0 :: suite) ts) (r : HdsG X hds l) :
      HdsG X (.ExceptHandler (some (.Name x q)) (some y) (s0 :: suite) q' :: hds) (⟨c, some i, ts⟩ :: l)
section
variable {X : Cx} {body : List Stmt} {h0 : ExceptHandler} {hds : List ExceptHandler} {l : List Hd} {pos : Pos} {tb : WX → TS} {Wo : WX}
theorem ps_try_gen (stk : X.stack = X.env :: X.outer) (frm : X.env.frame = some X.env.locals) (dup : X.N.Nodup) (tk : L2N.Takes X Wo)
    (run : ∀ (W : WX) (ps : List (Addr × Obj)) (xe : Value → Shared → Prop), L2N.Takes (X.tr ps xe) W → PassesOwn (model X.prog X.w) X.A X.env xe → PSs (X.tr ps xe) body (tb W)) (hh : HdsG X (h0 :: hds) l) :
    PS X (.Try body (h0 :: hds) [] [] pos) (fun D σ H => tb (wantG X.K Wo D l) D σ H) := by
  refine ⟨fun qs s σ H D I want => ?_⟩
  have good := I.ok
  have frames : X.A.frames = some (X.env :: X.outer) := by rw [good.frames, stk]
  refine wpAny_Try_except (wpAny_mono ((run (wantG X.K Wo D l) (X.pn ++ qs) (fun ex t1 => wpAny (model X.prog X.w) X.A (noteFrame ex X.env) (fun _ t2 => wpAny (model X.prog X.w) X.A (setFlight ex none) (fun _ t3 =>
    wpAny (model X.prog X.w) X.A (handleBy ex X.env (h0 :: hds)) (SP X qs D) X.xe t3) X.xe t2) X.xe t1) (fun val t caught => ?_) PassesOwn.looking).run [] s σ H D (I.toTry _) want) (fun fl t1 done => ?_) fun _ _ z => z)
  · obtain ⟨a, B, t0, qs2, τ, G, cls, d, rfl, J2, inB, same, sky2, free, os2, bare2, todo⟩ := caught
    have J := J2.ofTry good
    rw [show (X.tr (X.pn ++ qs) _).stack = X.env :: X.outer from stk] at sky2
    show wpAny (model X.prog X.w) X.A (noteFrame (.ref a) X.env) _ _ _
    refine L2N.Sky.land L2N.Zn.steady frames frm sky2 fun hp3 fly same3 => ?_
    have J3 : L2.Inv X qs τ G { t with heap := hp3 } := J.landed inB fly.1 (same.trans same3) os2 bare2
    obtain ⟨ob3, fs3, at3, z3, dt3⟩ := fly.there
    have off : a ∉ frs (X.env :: X.outer) := fun hm => by
      obtain ⟨_, ob4, at4, no4⟩ := fly.2.2.1.mem hm
      rw [at3] at at4
      cases at4
      exact no4 _ dt3
    have offL : a ≠ X.env.locals := fun z => off (List.mem_filterMap.mpr ⟨_, List.mem_cons_self, frm.trans (congrArg some z.symm)⟩)
    have offF : a ∉ X.fs := fun hm => by
      obtain ⟨en, hen, q⟩ := List.mem_filterMap.mp hm
      exact off (List.mem_filterMap.mpr ⟨en, List.mem_cons_of_mem _ hen, q⟩)
    have S3 := J3.suite at3 dt3 free offL offF
    have onward : wantG X.K Wo D [] cls d τ G → wpAny (model X.prog X.w) X.A (handleBy (.ref a) X.env []) (SP X qs D) X.xe { t with heap := hp3 } := fun w => by
      refine wpAny_handleBy_nil ?_
      obtain ⟨_, _, _, ob, fs, T, _, _, atA, _, dtA, isT, _⟩ := id fly
      unfold PySem.passOn
      refine wpAny_bind (wpAny_field atA dtA isT ?_)
      rw [if_neg (show ¬ ((Value.ref T == Value.none) = true) from by simp)]
      have last : wpAny (model X.prog X.w) X.A (setFlight (.ref a) X.env.frame) (fun _ t4 => wpAny (model X.prog X.w) X.A (throw (.ref a) : Sem Flow) (SP X qs D) X.xe t4) X.xe { t with heap := hp3 } := by
        rw [frm]
        exact HandSPX.setFlight_upZ fly fun hp4 held same4 => wpAny_throw (tk _ _ ⟨a, B, t0, qs, τ, G, cls, d, rfl, J, inB, (same.trans same3).trans same4, .inr (.inr (by rw [stk]; exact held)), free, os2, bare2, w⟩)
      first
        | exact wpAny_bind (wpAny_pure (wpAny_bind last))
        | exact wpAny_bind last
    have reads : ∀ {x : Str} {c : Value} {q : Pos} {Q : Value → Shared → Prop} {E : Value → Shared → Prop}, Names X x c → Q c { t with heap := hp3 } → wpAny (model X.prog X.w) (X.A.mark (some (.ref a))) (eval (.Name x q) X.env) Q E { t with heap := hp3 } := fun {x c q Q E} hn hq => by
      obtain ⟨gl, nodbg, inM | ⟨notM, bv, nn⟩⟩ := hn
      · exact ld_glob (X := X.suite a ((a, ob3) :: (X.pn ++ qs))) S3 gl inM hq nodbg
      · exact ld_blt (X := X.suite a ((a, ob3) :: (X.pn ++ qs))) S3 gl notM bv hq nn nodbg
    have kind : PySem.W.Looks (model X.prog X.w) hp3 (typeOf (.ref a)) cls := fun A Q E t' kp q => wpAny_typeOf_ref (kp _ _ at3) (by rw [z3.1]; exact q)
    have go : ∀ {hs' : List ExceptHandler} {l' : List Hd}, HdsG X hs' l' → wantG X.K Wo D l' cls d τ G → wpAny (model X.prog X.w) X.A (handleBy (.ref a) X.env hs') (SP X qs D) X.xe { t with heap := hp3 } := by
      intro hs' l' hk
      induction hk with
      | nil => exact onward
      | @one x c ts s0 suite q q' hs2 l2 hn hu r ih =>
        rintro ⟨b, hb, yes, no⟩
        refine wpAny_handleBy_cons (codeAny_handlers_test (reads hn ((PySem.W.exm_one (M := model X.prog X.w) J3.kIn kind hb).here ?_))) (by intro z; cases z)
        cases b with
        | false => exact ih (no rfl)
        | true =>
          refine codeAny_handlers_suite (HandSPX.lands_againZ fly fun hp4 fly4 same4 => ?_)
          have J4 : L2.Inv X qs τ G { t with heap := hp4 } := J.landed inB fly4.1 ((same.trans same3).trans same4) os2 bare2
          obtain ⟨ob4, fs4, at4, z4, dt4⟩ := fly4.there
          have S4 := J4.suite at4 dt4 free offL offF
          refine wpAny_mono ((hu a ob4 cls d (X.pn ++ qs) z4 ⟨_, dt4⟩).run [] _ _ G _ S4 (yes rfl a free)) (fun fl t6 sp => ?_) (fun _ _ z => False.elim z)
          cases fl with
          | ret u =>
            obtain ⟨v6, τ6, G6, S6, r6, q6⟩ := sp
            exact ⟨_, _, _, S6.unsuite good, r6, q6⟩
          | next =>
            obtain ⟨τ6, G6, S6, q6⟩ := sp
            exact ⟨_, _, S6.unsuite good, q6⟩
          | brk =>
            obtain ⟨τ6, G6, S6, q6⟩ := sp
            exact ⟨_, _, S6.unsuite good, q6⟩
          | cont =>
            obtain ⟨τ6, G6, S6, q6⟩ := sp
            exact ⟨_, _, S6.unsuite good, q6⟩
      | @asn x y c i ts s0 suite q q' hs2 l2 hn hi hk hu r ih =>
        rintro ⟨b, hb, yes, no⟩
        refine wpAny_handleBy_cons (codeAny_handlers_test (reads hn ((PySem.W.exm_one (M := model X.prog X.w) J3.kIn kind hb).here ?_))) (by intro z; cases z)
        cases b with
        | false => exact ih (no rfl)
        | true =>
          refine codeAny_handlers_suite_as (HandSPX.lands_againZ fly fun hp4 fly4 same4 => ?_)
          have J4 : L2.Inv X qs τ G { t with heap := hp4 } := J.landed inB fly4.1 ((same.trans same3).trans same4) os2 bare2
          obtain ⟨ob4, fs4, at4, z4, dt4⟩ := fly4.there
          have S4 := J4.suite at4 dt4 free offL offF
          refine store_ok (X := X.suite a ((a, ob4) :: (X.pn ++ qs))) (v := .ref a) S4 dup hi (.inl hk) rfl (fun t5 S5 => ?_) (.inr hk)
          refine wpAny_mono ((hu a ob4 cls d (X.pn ++ qs) z4 ⟨_, dt4⟩).run [] t5 _ G _ S5 (yes rfl a free)) (fun fl t6 sp => ?_) (fun _ _ z => False.elim z)
          have off2 : ∀ {τ6 : L2.St} {G6 : Hp} {Q : Shared → Prop}, L2.Inv (X.suite a ((a, ob4) :: (X.pn ++ qs))) [] τ6 G6 t6 → (∀ t7, L2.Inv X qs (τ6.set i none) G6 t7 → Q t7) →
              wpAny (model X.prog X.w) X.A (do bindName X.env y .none; unbindBehindTheSuite X.env y q') (fun _ t7 => Q t7) X.xe t6 := fun S6 hq => gone_ok (S6.unsuite good) dup hi hk hq
          cases fl with
          | ret u =>
            obtain ⟨v6, τ6, G6, S6, r6, q6⟩ := sp
            exact off2 S6 fun t7 J7 => ⟨_, _, _, J7, r6, q6⟩
          | next =>
            obtain ⟨τ6, G6, S6, q6⟩ := sp
            exact off2 S6 fun t7 J7 => ⟨_, _, J7, q6⟩
          | brk =>
            obtain ⟨τ6, G6, S6, q6⟩ := sp
            exact off2 S6 fun t7 J7 => ⟨_, _, J7, q6⟩
          | cont =>
            obtain ⟨τ6, G6, S6, q6⟩ := sp
            exact off2 S6 fun t7 J7 => ⟨_, _, J7, q6⟩
    exact go hh todo
  · cases fl with
    | ret u =>
      obtain ⟨v, τ, G, J, r, q⟩ := done
      exact ⟨v, τ, G, J.ofTry good, r, q⟩
    | next =>
      obtain ⟨τ, G, J, q⟩ := done
      exact wpAny_execs_nil ⟨τ, G, J.ofTry good, q⟩
    | brk =>
      obtain ⟨τ, G, J, q⟩ := done
      exact ⟨τ, G, J.ofTry good, q⟩
    | cont =>
      obtain ⟨τ, G, J, q⟩ := done
      exact ⟨τ, G, J.ofTry good, q⟩
end
/-! ### try over data -/
/-- which exception is one of a clause's class -/
def XtOk (K : PySem.W.Frag) (mg : Str → Option Value) (xt : Str → Str → Option Bool) : Prop := ∀ c x b, xt c x = some b → ∃ C hv, mg c = some (.ref C) ∧ (mg x = some hv ∨ (mg x = none ∧ bootBuiltins x = some hv)) ∧ PySem.W.exmOne K (.ref C) hv = some b
abbrev HdD := Str × Option Nat × (Addr → Addr → Option Addr → DS)
def XN : DX := fun _ _ _ _ => False
def DEnds.un (T : DEnds) (i : Nat) : DEnds := { nx := fun δ κ => T.nx (δ.set i none) κ, rt := T.rt, bk := fun δ κ => T.bk (δ.set i none) κ, ct := fun δ κ => T.ct (δ.set i none) κ }
def hPick (xt : Str → Str → Option Bool) : List HdD → DX → DEnds → DX
  | [], X, _ => X
  | (x, o, s) :: r, X, T => fun δ c fs κ => ∃ b, xt c x = some b ∧ if b = true then ∀ a C dd, match o with
      | none => s a C dd δ κ XN T
      | some i => s a C dd (δ.set i (some (.node (.cau c a C dd) fs))) κ XN (T.un i)
    else hPick xt r X T δ c fs κ
def sTry (xt : Str → Str → Option Bool) (b : DS) (hs : List HdD) : DS := fun δ κ X T => b δ κ (hPick xt hs X T) T
def WN : WX := fun _ _ _ _ => False
def SuiteD (X : Cx) (suite : List Stmt) (s : Addr → Addr → Option Addr → DS) : Prop := ∀ (a C : Addr) (dd : Option Addr) (oe : Obj) (pn : List (Addr × Obj)), Caught X a C dd oe → PSsD (X.suite a ((a, oe) :: pn)) WN suite (s a C dd)
inductive HdsD (X : Cx) : List ExceptHandler → List HdD → Prop
  | nil : HdsD X [] []
  | one {x : Str} {hv : Value} {s : Addr → Addr → Option Addr → DS} {s0 : Stmt} {suite : List Stmt} {q q' : Pos} {hds : List ExceptHandler} {l : List HdD} (n : Names X x hv) (u : SuiteD X (s0 :: suite) s) (r : HdsD X hds l) : HdsD X (.ExceptHandler (some (.Name x q)) none (s0 :: suite) q' :: hds) ((x, none, s) :: l)
  | asn {x y : Str} {hv : Value} {i : Nat} {s : Addr → Addr → Option Addr → DS} {s0 : Stmt} {suite : List Stmt} {q q' : Pos} {hds : List ExceptHandler} {l : List HdD} (n : Names X x hv) (hi : X.N[i]? = some y) (hk : X.env.kindOf y = some .local) (u : SuiteD X (s0 :: suite) s) (r : HdsD X hds l) :
      HdsD X (.ExceptHandler (some (.Name x q)) (some y) (s0 :: suite) q' :: hds) ((x, some i, s) :: l)
def tsD (X : Cx) (s : Addr → Addr → Option Addr → DS) : Addr → Value → Option Addr → TS := fun a cls d D σ H => ∃ C, cls = .ref C ∧ liftS (CtxOf X) WN (s a C d) D σ H
theorem suite_g {X : Cx} {suite : List Stmt} {s : Addr → Addr → Option Addr → DS} (u : SuiteD X suite s) : SuiteG X suite (tsD X s) := fun a oe cls d pn hz hf => ⟨fun ps sh σ H D I ⟨C, e, q⟩ => by
  subst e
  exact (u a C d oe pn ⟨hz, hf⟩).run ps sh σ H D I q⟩
theorem postE_un {C : Ctx} {F : Hp} {ρ : Loc0} {DD : DEnds} {T : Ends} (P : PostE C F ρ DD T) (i : Nat) : PostE C F ρ (DD.un i) (endsG T i) :=
  ⟨fun _ _ _ _ _ _ e S R q => P.nx _ _ _ _ _ _ e S (R.unset i) q, P.rt, fun _ _ _ _ _ _ e S R q => P.bk _ _ _ _ _ _ e S (R.unset i) q, fun _ _ _ _ _ _ e S R q => P.ct _ _ _ _ _ _ e S (R.unset i) q⟩
theorem hds_g {X : Cx} {xt : Str → Str → Option Bool} {W : WX} (T : XtOk X.K X.mg xt) : ∀ {hds : List ExceptHandler} {l : List HdD}, HdsD X hds l → ∃ lg, HdsG X hds lg ∧ ∀ (F : Hp) (ρ : Loc0) (XD : DX) (DD : DEnds) (D : Ends), PostE (CtxOf X) F ρ DD D → PostX (CtxOf X) F ρ XD W →
    PostX (CtxOf X) F ρ (hPick xt l XD DD) (wantG X.K W D lg)
  | _, _, .nil => ⟨[], .nil, fun F ρ XD DD D _ PX => PX⟩
  | _, _, .one (x := x) (hv := hv) (s := s) n u r => by
    obtain ⟨lg, h1, h2⟩ := hds_g T r
    refine ⟨_, .one n (suite_g u) h1, fun F ρ XD DD D P PX F' ρ' κ' H' δ σ c fs cls dd e S R rx q => ?_⟩
    obtain ⟨b, hb, q⟩ := q
    obtain ⟨C, hv', m1, m2, m3⟩ := T c x b hb
    obtain ⟨⟨m4, C', rfl⟩, _⟩ := id rx
    rw [show (CtxOf X).mg c = X.mg c from rfl, m1] at m4
    cases m4
    have ev : hv' = hv := by
      obtain ⟨_, _, m5 | ⟨m5, m6, _⟩⟩ := n
      · rcases m2 with m2 | ⟨m2, _⟩
        · exact Option.some.inj (m2.symm.trans m5)
        · rw [m5] at m2; cases m2
      · rcases m2 with m2 | ⟨_, m2⟩
        · rw [m5] at m2; cases m2
        · exact Option.some.inj (m2.symm.trans m6)
    subst ev
    refine ⟨b, m3, fun hb1 a na => ?_, fun hb0 => ?_⟩
    · rw [if_pos hb1] at q
      exact ⟨C, rfl, F', ρ', κ', δ, XN, DD, S, R, q a C dd, P.ext e, fun _ _ _ _ _ _ _ _ _ _ _ _ _ _ z => z.elim⟩
    · rw [if_neg (by rw [hb0]; decide)] at q
      exact h2 F ρ XD DD D P PX _ _ _ _ _ _ _ _ _ _ e S R rx q
  | _, _, .asn (x := x) (hv := hv) (i := i) (s := s) n hi hk u r => by
    obtain ⟨lg, h1, h2⟩ := hds_g T r
    refine ⟨_, .asn n hi hk (suite_g u) h1, fun F ρ XD DD D P PX F' ρ' κ' H' δ σ c fs cls dd e S R rx q => ?_⟩
    obtain ⟨b, hb, q⟩ := q
    obtain ⟨C, hv', m1, m2, m3⟩ := T c x b hb
    obtain ⟨⟨m4, C', rfl⟩, vs, rl, hd⟩ := id rx
    rw [show (CtxOf X).mg c = X.mg c from rfl, m1] at m4
    cases m4
    have ev : hv' = hv := by
      obtain ⟨_, _, m5 | ⟨m5, m6, _⟩⟩ := n
      · rcases m2 with m2 | ⟨m2, _⟩
        · exact Option.some.inj (m2.symm.trans m5)
        · rw [m5] at m2; cases m2
      · rcases m2 with m2 | ⟨_, m2⟩
        · rw [m5] at m2; cases m2
        · exact Option.some.inj (m2.symm.trans m6)
    subst ev
    refine ⟨b, m3, fun hb1 a na => ?_, fun hb0 => ?_⟩
    · rw [if_pos hb1] at q
      refine ⟨C, rfl, F', ρ', κ', _, XN, _, S, R.set (.node (k := .cau c a C dd) ⟨rfl, m1, ?_⟩ rl) i, q a C dd, postE_un (P.ext e) i, fun _ _ _ _ _ _ _ _ _ _ _ _ _ _ z => z.elim⟩
      rcases hd with ⟨z1, z2⟩ | ⟨d, ns, z1, z2, z3⟩
      · exact .inl ⟨z2, z1⟩
      · exact .inr ⟨d, ns, z1, z2, z3⟩
    · rw [if_neg (by rw [hb0]; decide)] at q
      exact h2 F ρ XD DD D P PX _ _ _ _ _ _ _ _ _ _ e S R rx q
section
variable {X : Cx} {body : List Stmt} {h0 : ExceptHandler} {hds : List ExceptHandler} {l : List HdD} {pos : Pos} {b : DS} {W : WX} {k : Nat} {xt : Str → Str → Option Bool}
theorem sd_try (G : Good k X W) (T : XtOk X.K X.mg xt) (run : ∀ (W' : WX) (ps : List (Addr × Obj)) (xe : Value → Shared → Prop), Good k (X.tr ps xe) W' → PSsD (X.tr ps xe) W' body b) (hh : HdsD X (h0 :: hds) l)
    (stk : X.stack = X.env :: X.outer := by rfl) (frm : X.env.frame = some X.env.locals := by rfl) : PSD X W (.Try body (h0 :: hds) [] [] pos) (sTry xt b l) := by
  obtain ⟨lg, h1, h2⟩ := hds_g (W := W) T hh
  refine ps_weak (ps_try_gen (tb := fun W' => liftS (CtxOf X) W' b) stk frm G.nd G.tk (fun W' ps xe tk po => run W' ps xe ⟨tk, po, G.rm, G.gd, G.sm, G.calm, G.nd⟩) h1) ?_
  rintro D σ H ⟨F, ρ, κ, δ, XD, DD, S, R, q, P, PX⟩
  exact ⟨F, ρ, κ, δ, _, DD, S, R, q, P, h2 F ρ XD DD D P PX⟩
end
end DL

/-! DLo: stores into dicts, list.index. -/
namespace DL
open PySem PySem.Spec PyProof.Rows L2
def hasKey (ks : List Key) (k : Key) : Bool := ks.any fun k' => decide (k' = k)
def putKs (ks : List Key) (k : Key) : List Key := if hasKey ks k = true then ks else ks ++ [k]
def putVs {α : Type} (ks : List Key) (xs : List α) (k : Key) (d : α) : List α := if hasKey ks k = true then List.zipWith (fun k' x => if k' = k then d else x) ks xs else xs ++ [d]
theorem zipW_rep {C : Ctx} {F : Hp} {ρ : Loc0} {d : D} {v : V} {k : Key} (r : Rep C F ρ d v) : ∀ {ks : List Key} {xs : List D} {vs : List V}, RepL C F ρ xs vs → RepL C F ρ (List.zipWith (fun k' x => if k' = k then d else x) ks xs) (List.zipWith (fun k' x => if k' = k then v else x) ks vs)
  | [], _, _, _ => .nil
  | _ :: _, _, _, .nil => .nil
  | k' :: ks, _, _, .cons h t => .cons (by
      show Rep C F ρ (if k' = k then d else _) (if k' = k then v else _)
      by_cases e : k' = k
      · rw [if_pos e, if_pos e]; exact r
      · rw [if_neg e, if_neg e]; exact h) (zipW_rep r t)
theorem putV_rep {C : Ctx} {F : Hp} {ρ : Loc0} {d : D} {v : V} {k : Key} {ks : List Key} {xs : List D} {vs : List V} (r : Rep C F ρ d v) (h : RepL C F ρ xs vs) : RepL C F ρ (putVs ks xs k d) (putVs ks vs k v) := by
  unfold putVs
  split
  · exact zipW_rep r h
  · exact h.append (.cons r .nil)
theorem any_key (kvs : List (Key × V)) (k : Key) : (kvs.any fun kv => decide (kv.1 = k)) = hasKey (kvs.map (·.1)) k := by
  unfold hasKey
  rw [List.any_map]
  rfl
theorem putK_parts (kvs : List (Key × V)) (k : Key) (v : V) : (putK kvs k v).map (·.1) = putKs (kvs.map (·.1)) k ∧ (putK kvs k v).map (·.2) = putVs (kvs.map (·.1)) (kvs.map (·.2)) k v := by
  unfold putK putKs putVs
  rw [any_key]
  by_cases h : hasKey (kvs.map (·.1)) k = true
  · rw [if_pos h, if_pos h, if_pos h]
    clear h
    induction kvs with
    | nil => exact ⟨rfl, rfl⟩
    | cons p r ih =>
      obtain ⟨i1, i2⟩ := ih
      by_cases e : p.1 = k
      · refine ⟨?_, ?_⟩
        · rw [List.map_cons, List.map_cons, List.map_cons, i1, if_pos e]
        · rw [List.map_cons, List.map_cons, List.map_cons, List.map_cons, List.zipWith_cons_cons, i2, if_pos e, if_pos e]
      · refine ⟨?_, ?_⟩
        · rw [List.map_cons, List.map_cons, List.map_cons, i1, if_neg e]
        · rw [List.map_cons, List.map_cons, List.map_cons, List.map_cons, List.zipWith_cons_cons, i2, if_neg e, if_neg e]
  · rw [if_neg h, if_neg h, if_neg h]
    rw [List.map_append, List.map_append]
    exact ⟨rfl, rfl⟩
def keyO : D → Option Key
  | .int i => some (.inl i)
  | .str x => some (.inr x)
  | _ => none
theorem keyO_rep {C : Ctx} {F : Hp} {ρ : Loc0} {d : D} {v : V} {k : Key} (r : Rep C F ρ d v) (h : keyO d = some k) : v = kV k := by
  cases r <;> first | (cases h; rfl) | cases h
/-- d[k] = v of a dict that is a cell -/
def fSetD : D → D → D → Kap → (Kap → Prop) → Prop := fun o i d κ Q => ∃ n ks xs k, o = .cell n ∧ κ n = some (.live (.dct ks) xs) ∧ keyO i = some k ∧ ks.length < sizeLine ∧ Q (kset κ n (.live (.dct (putKs ks k)) (putVs ks xs k d)))
section
variable {X : Cx} {W : WX} {k : Nat} {e1 e2 : Expr} {a b : DE} {pos : Pos}
theorem pg_subDD (G : Good k X W) (ho : PED X W e1 a) (hi : PED X W e2 b)
    (ha : ∀ v, assign (.Subscript e1 e2 pos) X.env v = (do
      let ov ← holding [v] (eval e1 X.env)
      let iv ← holding [v, ov] (eval e2 X.env)
      standAt pos
      holding [v, ov, iv] (setItem ov iv v)
      release [v, ov, iv] []) := by intro _; rfl) : PGD X W (.Subscript e1 e2 pos) (gSubD a b fSetD) :=
  pg_weak (pg_sub ho hi (set_dict (by have := G.rm.un; omega)) ha) fun v σ H Q ⟨F, ρ, κ, δ, d, XD, QD, S, R, rr, h, P, PX⟩ =>
  ⟨F, ρ, κ, δ, XD, _, S, R, h, fun F1 ρ1 κ1 H1 x u e1 S1 R1 h1 => ⟨F1, ρ1, κ1, δ, XD, _, S1, R.ext e1, h1, fun F2 ρ2 κ2 H2 y w e2 S2 R2 h2 => by
    obtain ⟨n, ks, xs, k, rfl, h3, h4, h5, h6⟩ := h2
    have e12 := e1.trans e2
    obtain ⟨p, vs, rfl, hr, ⟨kvs, g1, g2, g3⟩, rl⟩ := cell_at S2 (R1.ext e2) h3
    have ek := keyO_rep R2 h4
    subst ek g2 g3
    obtain ⟨z1, z2⟩ := putK_parts kvs k v
    refine ⟨p, _, rfl, DPut.k g1 (by rw [List.length_map] at h5; exact h5), ?_⟩
    exact P _ _ _ _ _ _ e12 (S2.write (k' := .dct (putKs (kvs.map (·.1)) k)) (o := .dK (putK kvs k v)) h3 hr (fun H' q => ⟨_, q, z1, z2⟩) (putV_rep (rr.ext e12) rl)) (R.ext e12) h6, PX.ext e1⟩, PX⟩
end
/-! ### list.index of truths -/
def fIndexB : D1N := fun x ds κ Q => ∃ (bs : List Bool) (b : Bool) (j : Nat), x = .node .lst (bs.map D.bl) ∧ ds = [.bl b] ∧ bs[j]? = some b ∧ (∀ m, m < j → bs[m]? ≠ some b) ∧ Q (.int (j : Nat)) κ
theorem sim_indexB {C : Ctx} : Sim1N C fIndexB (rIndex C.K) := by
  intro F ρ κ H x v ds vs QD Q S rx rd h P
  obtain ⟨bs, b, j, rfl, rfl, h1, h2, h3⟩ := h
  obtain ⟨a, ws, rfl, hk, rl⟩ := view_at S rx rfl
  have e := rl.bls
  subst e
  obtain ⟨w, rfl, rw'⟩ := repL1 rd
  cases rw'
  refine ⟨a, _, _, j, .bl b, rfl, rfl, SqL.of hk, rfl, ?_, by rw [List.getElem?_map, h1]; rfl, by cases b <;> rfl, fun m z' hm hz => ?_, P _ _ _ _ _ _ (Ext.refl _ _) S (.int _) h3⟩
  · rw [List.all_map]
    exact List.all_eq_true.mpr fun _ _ => rfl
  · rw [List.getElem?_map] at hz
    cases q : bs[m]? with
    | none => rw [q] at hz; cases hz
    | some c =>
      rw [q] at hz
      cases hz
      have := h2 m hm
      rw [q] at this
      cases b <;> cases c <;> first | rfl | exact absurd rfl this
section
variable {X : Cx} {W : WX} {o e : Expr} {es : List Expr} {a : DE} {as : DA} {apos cpos : Pos}
theorem pd_indexB (ho : PED X W o a) (ha : PAD X W (e :: es) as) (hbase : attributeBase o "index" X.env (eval o X.env) = eval o X.env := by rfl)
    (hfew : ((backTo cpos (starEach (e :: es) X.env)).all (fun x => !x.1) && (backToKw cpos (keywordEach [] X.env)).all (fun x => x.1.isSome) && decide ((e :: es).length + ([] : List Keyword).length + (if ([] : List Keyword).isEmpty then 0 else 1) < 30)) = true := by rfl)
    (hline : (apos.endLine == cpos.line) = true := by rfl) (hs : starEach (e :: es) X.env = (false, eval e X.env) :: starEach es X.env := by rfl) (hplain : (backTo cpos (starEach es X.env)).any (·.1) = false := by rfl) :
    PED X W (.Call (.Attribute o "index" apos) (e :: es) [] cpos) (dBM "list" fIndexB a as) :=
  pe_weak (pe_bm PySem.F.plainAttrs_list PySem.F.slot_list_index PySem.F.type_list_index mt_index ho ha hbase hfew hline hs hplain) fun _ _ _ => lift_bm sim_indexB
end
/-! ### tables of exceptions -/
def xtOf (tab : List (Str × Str × Bool)) (c x : Str) : Option Bool := (tab.find? fun r => decide (r.1 = c) && decide (r.2.1 = x)).map (·.2.2)
theorem xtOk_of {K : PySem.W.Frag} {mg : Str → Option Value} {tab : List (Str × Str × Bool)} (h : ∀ r ∈ tab, ∃ C hv, mg r.1 = some (.ref C) ∧ (mg r.2.1 = some hv ∨ (mg r.2.1 = none ∧ bootBuiltins r.2.1 = some hv)) ∧ PySem.W.exmOne K (.ref C) hv = some r.2.2) : XtOk K mg (xtOf tab) := by
  intro c x b e
  unfold xtOf at e
  cases q : tab.find? fun r => decide (r.1 = c) && decide (r.2.1 = x) with
  | none => rw [q] at e; cases e
  | some r =>
    rw [q] at e
    cases e
    have hp := List.find?_some q
    have hm := List.mem_of_find?_eq_some q
    rw [Bool.and_eq_true_iff, decide_eq_true_iff, decide_eq_true_iff] at hp
    obtain ⟨rfl, rfl⟩ := hp
    exact h r hm
def xfOf (tab : List (Str × Str)) (c f : Str) : Bool := tab.any fun r => decide (r.1 = c) && decide (r.2 = f)
theorem xfOk_of {K : PySem.W.Frag} {mg : Str → Option Value} {tab : List (Str × Str)} (h : ∀ r ∈ tab, ∃ C, mg r.1 = some (.ref C) ∧ XfC K C ∧ PySem.W.findIn K (.ref C) r.2 = some none) : XfOk K mg (xfOf tab) := by
  intro c f e
  unfold xfOf at e
  obtain ⟨r, hm, hp⟩ := List.any_eq_true.mp e
  rw [Bool.and_eq_true_iff, decide_eq_true_iff, decide_eq_true_iff] at hp
  obtain ⟨rfl, rfl⟩ := hp
  exact h r hm
theorem exm_of {K : PySem.W.Frag} {cls : Value} {C : Addr} {b : Bool} (h1 : PySem.W.subIn K (.ref C) (.type "BaseException") = some true) (h2 : PySem.W.kitOne K (.type "int") (.ref C) = some false) (h3 : PySem.W.subIn K cls (.ref C) = some b) : PySem.W.exmOne K cls (.ref C) = some b := by
  have h4 : PySem.W.kitCls K (.type "int") (.ref C) = some false := h2
  unfold PySem.W.exmOne
  rw [h1]
  unfold PySem.W.kitCls at h4 ⊢
  dsimp only at h4 ⊢
  split at h4
  · rename_i hc
    rw [if_pos hc]
    exact h3
  · cases h4
theorem exm_ofT {K : PySem.W.Frag} {cls : Value} {T : String} {b : Bool} (h1 : PySem.W.subIn K (.type T) (.type "BaseException") = some true) (h2 : PySem.W.kitMeta T = true) (h3 : PySem.W.subIn K cls (.type T) = some b) : PySem.W.exmOne K cls (.type T) = some b := by
  unfold PySem.W.exmOne
  rw [h1]
  unfold PySem.W.kitCls
  dsimp only
  rw [if_pos h2]
  exact h3
/-! ### steps -/
section
variable {δ : DEnv} {κ : Kap} {X : DX} {Q : DQ} {as : DA} {b : DS} {c f : Str} {ns : List Str} {xs fs : List D} {T : DEnds} {xt : Str → Str → Option Bool} {xf : Str → Str → Bool} {hs : List HdD} {x : Str} {o : Option Nat} {s : Addr → Addr → Option Addr → DS} {i : Nat}
theorem s_rz (h : as δ κ X fun xs κ1 => xs.length = ns.length ∧ xs.length ≤ 100 ∧ X δ c (xfl ns xs.reverse) κ1) : sRz c ns as δ κ X T := h
theorem s_rz3 {Y : Str → List D → Kap → Prop} (h1 : xs.length = ns.length) (h2 : xs.length ≤ 100) (h3 : xfl ns xs.reverse = fs) (h : Y c fs κ) : xs.length = ns.length ∧ xs.length ≤ 100 ∧ Y c (xfl ns xs.reverse) κ := ⟨h1, h2, by rw [h3]; exact h⟩
theorem g_set {d : D} {δ' : DEnv} {QG : DEnv → Kap → Prop} (e : δ.set i (some d) = δ') (h : QG δ' κ) : gN i d δ κ X QG := by
  subst e
  exact h
theorem s_try (h : b δ κ (hPick xt hs X T) T) : sTry xt b hs δ κ X T := h
theorem hp_no (e : xt c x = some false) (h : hPick xt hs X T δ c fs κ) : hPick xt ((x, o, s) :: hs) X T δ c fs κ := ⟨false, e, by rw [if_neg (by decide)]; exact h⟩
theorem hp_one (e : xt c x = some true) (h : ∀ a C dd, s a C dd δ κ XN T) : hPick xt ((x, none, s) :: hs) X T δ c fs κ := ⟨true, e, by rw [if_pos rfl]; exact h⟩
theorem hp_as {n : DEnv → Kap → Prop} {rt : DQ} {bk ct : DEnv → Kap → Prop} (e : xt c x = some true) (h : ∀ a C dd, s a C dd (δ.set i (some (.node (.cau c a C dd) fs))) κ XN ⟨fun δ κ => n (δ.set i none) κ, rt, fun δ κ => bk (δ.set i none) κ, fun δ κ => ct (δ.set i none) κ⟩) : hPick xt ((x, some i, s) :: hs) X ⟨n, rt, bk, ct⟩ δ c fs κ := ⟨true, e, by rw [if_pos rfl]; exact h⟩
theorem fld_1 {n : Str} {d : D} {r : List D} : fldOf n (.str n :: d :: r) = some d := by
  show (if n = n then some d else _) = _
  rw [if_pos rfl]
theorem fld_2 {n m : Str} {d e : D} {r : List D} (h : m ≠ n) (q : fldOf n r = some e) : fldOf n (.str m :: d :: r) = some e := by
  show (if m = n then some d else _) = _
  rw [if_neg h]
  exact q
theorem e_xf {a C : Addr} {dd : Option Addr} {d : D} (e : δ[i]? = some (some (.node (.cau c a C dd) fs))) (h1 : xf c f = true) (h2 : fldOf f fs = some d) (h : Q d κ) : dXf xf i f a C dd δ κ X Q := ⟨c, fs, d, e, h1, h2, h⟩
end
end DL

/-! DLp: tuples that stand in the globals, three at once, == in a suite. -/
namespace DL
open PySem PySem.Spec PyProof.Rows L2
/-- a tuple that the top has left -/
def TupK (K : PySem.W.Frag) (a : Addr) (vs : List V) : Prop := ∃ (o : Obj) (its : Array Value) (n : Nat), K.lookup a = some o ∧ o.cls = .type "tuple" ∧ o.data = .seq its n ∧ its.size ≤ sizeLine ∧ Vals vs its.toList
theorem tupK_of {K : PySem.W.Frag} {a : Addr} {vs : List V} {its : List Value} {dd : Option Addr} {n : Nat} {sl : Array (Option Value)} (l : K.lookup a = some ⟨.type "tuple", dd, .seq its.toArray n, sl⟩) (hl : its.length ≤ 16777216) (r : Vals vs its) : TupK K a vs :=
  ⟨_, its.toArray, n, l, rfl, rfl, by rw [List.size_toArray]; exact hl, r⟩
theorem TupK.rep {K : PySem.W.Frag} {mg : Str → Option Value} {a : Addr} {vs : List V} {ds : List D} (h : TupK K a vs) {F : Hp} {ρ : Loc0} (r : RepL ⟨K, mg⟩ F ρ ds vs) : Rep ⟨K, mg⟩ F ρ (.node .tup ds) (.ref a) := .node (k := .tup) (.inr h) r
section
variable {X : Cx} {W : WX} {k : Nat} {x : Str} {p pos : Pos} {vs : List V} {ds : List D}
theorem pd_glbTup (hm : ∃ a, X.mg x = some (.ref a) ∧ TupK X.K a vs) (r : ∀ F ρ, RepL (CtxOf X) F ρ ds vs) (hg : Gl X x := by rfl) (hdb : (x == ("__debug__" : Str)) = false := by decide) : PED X W (.Name x p) (dC (.node .tup ds)) := by
  obtain ⟨a, hm, ht⟩ := hm
  refine ⟨fun pins s σ H Q I ⟨F, ρ, κ, δ, XD, QD, S, R, h, P, PX⟩ => ?_⟩
  exact ld_glob I hg hm ⟨.ref a, H, I, rfl, P _ _ _ _ _ _ (Ext.refl _ _) S (ht.rep (r _ _)) h⟩ hdb
end
def sPar3 (i j l : Nat) (as : DA) : DS := fun δ κ X T => as δ κ X fun ds κ1 => ∃ x y z, ds = [x, y, z] ∧ T.nx (((δ.set i (some x)).set j (some y)).set l (some z)) κ1
section
variable {X : Cx} {W : WX} {k : Nat} {e1 e2 e3 : Expr} {st : Stmt} {as : DA} {a b : DE} {pos : Pos}
theorem repL3 {C : Ctx} {F : Hp} {ρ : Loc0} {x y z : D} {vs : List V} (r : RepL C F ρ [x, y, z] vs) : ∃ u v w, vs = [u, v, w] ∧ Rep C F ρ x u ∧ Rep C F ρ y v ∧ Rep C F ρ z w := by
  cases r with
  | cons h1 r =>
    cases r with
    | cons h2 r =>
      cases r with
      | cons h3 r =>
        cases r
        exact ⟨_, _, _, rfl, h1, h2, h3⟩
theorem sd_par3 (i j l : Nat) (hp : ∀ ta, PA X [e1, e2, e3] ta → PS X st (tPar3 i j l ta)) (ha : PAD X W [e1, e2, e3] as) : PSD X W st (sPar3 i j l as) := ps_weak (hp _ ha) fun T σ H ⟨F, ρ, κ, δ, XD, DD, S, R, h, P, PX⟩ =>
  ⟨F, ρ, κ, δ, XD, _, S, R, h, fun F1 ρ1 κ1 H1 ds vs e1 S1 R1 ⟨x, y, z, h0, h1⟩ => by
    subst h0
    obtain ⟨u, v, w, rfl, rx, ry, rz⟩ := repL3 R1
    exact ⟨u, v, w, rfl, P.nx _ _ _ _ _ _ e1 S1 ((((R.ext e1).set rx i).set ry j).set rz l) h1⟩, PX⟩
/-- what == leans on, in a suite too -/
structure Gs (X : Cx) : Prop where
  un : X.A.units + 64 < cLine
  sm : ∃ o, X.base.get? sysModules = some o
theorem Good.gs (g : Good k X W) : Gs X := ⟨by have := g.rm.un; omega, g.sm⟩
theorem Gs.suite {a : Addr} {pn : List (Addr × Obj)} (g : Gs X) : Gs (X.suite a pn) := ⟨g.un, g.sm⟩
theorem op_eqS (g : Gs X) : OpR X (compareOp .Eq) (rDat (CtxOf X) PyData.eqv) := by
  intro pins s σ H x y v u Q I rx ry ⟨F, ρ, κ, dx, dy, p, q, S, r1, r2, h1, h2, h3, h4, h5⟩
  obtain ⟨as, q1, _⟩ := Pd.reads I (Inv.sysm I g.sm) S h1 r1 rx
  obtain ⟨bs, q2, _⟩ := Pd.reads I (Inv.sysm I g.sm) S h2 r2 ry
  exact SeqAt.compareEq_shaped q1 q2 h3 h4 g.un ⟨.bl _, H, I, rfl, h5⟩
theorem pd_eqS (g : Gs X) (ha : PED X W e1 a) (hb : PED X W e2 b) : PED X W (.Compare e1 [.Eq] [e2] pos) (dOp fEq a b) := pd_cmp (op_eqS g) sim_dat ha hb
end
/-! steps -/
section
variable {δ : DEnv} {κ : Kap} {X : DX} {as : DA} {x y z : D} {n : DEnv → Kap → Prop} {rt : DQ} {bk ct : DEnv → Kap → Prop}
theorem s_par3 {i j l : Nat} (h : as δ κ X fun ds κ1 => ∃ x y z, ds = [x, y, z] ∧ n (((δ.set i (some x)).set j (some y)).set l (some z)) κ1) : sPar3 i j l as δ κ X ⟨n, rt, bk, ct⟩ := h
theorem x_par3 {P : D → D → D → Prop} (h : P x y z) : ∃ u v w, [x, y, z] = [u, v, w] ∧ P u v w := ⟨x, y, z, rfl, h⟩
end
end DL

/-! DMc: list comprehensions with several for clauses. -/
namespace DL
open PySem PySem.Spec PyProof.Rows L2
/-- what one turn of a clause's loop is -/
def TurnIs (code : Expr) (k : Nat) (p : Pos) (tg : Expr) (ifs : List Expr) (bodyK : Value → Env → Sem PySem.Fin → Sem PySem.Fin) : Prop := ∀ it acc env, compTurn code k it acc env = (do
  standAt p
  match ← pyNext it with
  | none => pure (.done .next)
  | some v =>
    letOwnedTupleGo tg it v
    assign tg env v
    let mut ok := true
    for c in ifs do
      if ok then ok ← isTrue c env (eval c env)
    if ok then bodyK acc env (again (.compLoop code k it acc env)) else again (.compLoop code k it acc env))
structure BodyOk (Y : Cx) (bodyK : Sem PySem.Fin → Sem PySem.Fin) (vsI : List Nat) (tk : L2.St → Hp → (Hp → Prop) → Prop) : Prop where
  run : ∀ (pins : List (Addr × Obj)) (σ : L2.St) (H : Hp) (s : Shared) (Nx : Hp → Prop) (r : Sem PySem.Fin) (Q : PySem.Fin → Shared → Prop) (E : Value → Shared → Prop), L2.Inv Y pins σ H s → tk σ H Nx →
    (∀ s' σ' H', L2.Inv Y pins σ' H' s' → σ'.length = σ.length → (∀ (j : Nat) v, (wipe σ vsI)[j]? = some (some v) → σ'[j]? = some (some v)) → Nx H' → wpAny (model Y.prog Y.w) Y.A r Q E s') → wpAny (model Y.prog Y.w) Y.A (bodyK r) Q E s
def clW (g : TG) (tt : TT) (tk : L2.St → Hp → (Hp → Prop) → Prop) (vs : List Nat) (J : It) (σ : L2.St) (W : Nat → Nat → Hp → Prop) (Nx : Hp → Prop) : Prop := ∀ j m H, W j m H → (J.stop j H ∧ Nx H) ∨ (J.go j H ∧ ∃ Nx1 : Hp → Prop, (∀ H', Nx1 H' → ∃ m', m' < m ∧ W (j + 1) m' H') ∧
  ∀ x H', J.yld j H x H' → g x (wipe σ vs) H' fun σ3 H5 => wipe σ3 vs = wipe σ vs ∧ tt σ3 H5 fun b H6 => if b = true then tk σ3 H6 Nx1 else Nx1 H6)
section
variable {Y : Cx} {elt0 tg : Expr} {gs : List Comprehension} {scope : Scope} {lpos : Pos} {ifs : List Expr} {k : Nat} {p : Pos} {bodyK : Value → Env → Sem PySem.Fin → Sem PySem.Fin} {g : TG} {tt : TT} {tk : L2.St → Hp → (Hp → Prop) → Prop} {vs vsI : List Nat} {D : Addr}
theorem loop_ok (hx : ∀ e s, ¬ Y.xe e s) (hc : Y.calm = true) (hk : TurnIs (.ListComp elt0 gs scope lpos) k p tg ifs bodyK) (pg : PG Y tg g) (pt : PTs Y ifs tt) (bo : BodyOk Y (bodyK (.ref D) Y.env) vsI tk) (hv : ∀ i ∈ vsI, i ∈ vs)
    {pins : List (Addr × Obj)} {σ : L2.St} {H : Hp} {s : Shared} {it : Addr} {fp : List Addr} {tn : Nat → Heap → Prop} {J : It} {W : Nat → Nat → Hp → Prop} {m : Nat} {Nx : Hp → Prop}
    (T : Turn Y.prog Y.w Y.K tg J fp it tn) (st : tn 0 s.heap) (n0 : ∀ b ∈ fp, H b = none) (hfp : ∀ {σ' : L2.St} {H' : Hp} {s' : Shared}, L2.Inv Y pins σ' H' s' → (∀ b ∈ fp, H' b = none) → ∀ b ∈ fp, FpOk Y pins H' b) (I : L2.Inv Y pins σ H s) (w0 : W 0 m H) (turn : clW g tt tk vs J σ W Nx) :
    codeAny (model Y.prog Y.w) Y.A (.compLoop (.ListComp elt0 gs scope lpos) k (.ref it) (.ref D) Y.env) (fun r s' => match r with
      | .ok _ => ∃ H', L2.Inv Y pins (wipe σ vs) H' s' ∧ Nx H'
      | .error _ => False) s := by
  refine codeAny_loop rfl (fun n s' => ∃ j H', L2.Inv Y pins (wipe σ vs) H' s' ∧ tn j s'.heap ∧ (∀ b ∈ fp, H' b = none) ∧ W j n H') (fun n s1 hI => ?_) m ⟨0, H, I.weak (wipe_length _ _) (fun j v e => (wipe_some e).1), st, n0, w0⟩
  obtain ⟨j, H1, I1, st1, n1, w1⟩ := hI
  show wpAny _ Y.A ((compTurn (.ListComp elt0 gs scope lpos) k (.ref it) (.ref D) Y.env).onRaise (fun x => do noteFrame x Y.env; theTreesLotGoes x)) _ _ s1
  refine wpAny_noted ?_
  rw [hk]
  rcases turn j n H1 w1 with ⟨stop, nx⟩ | ⟨go, Nx1, hNx, step⟩
  · refine wpAny_bind (wpAny_standAt (wpAny_bind (thnF (T.done Y rfl rfl rfl hc j pins s1 _ H1 (fun _ _ => False) I1 (hfp I1 n1) st1 stop) fun r s2 ⟨hr, I2⟩ => ?_)))
    subst hr
    exact wpAny_pure ⟨H1, I2, nx⟩
  · refine wpAny_bind (wpAny_standAt (wpAny_bind (thnF (T.item Y rfl rfl rfl hc j pins s1 _ H1 (fun _ _ => False) I1 (hfp I1 n1) st1 go) fun r s2 ⟨u, hr, h2⟩ => ?_)))
    subst hr
    refine wpAny_bind (thnF h2 fun _ s3 ⟨x, H3, I3, r3, y3, st3, n3⟩ => ?_)
    have I3' := I3.pinned (hfp I3 n3) (T.obj _ _ st3)
    refine wpAny_bind (wpAny_mono (pg.run _ s3 _ H3 x u _ I3' r3 (step x H3 y3)) (fun _ s4 ⟨σ4, H4, I4, hw4, q4⟩ => ?_) fun e s' z => absurd z (hx e s'))
    refine wpAny_bind (wpAny_mono (pt.run _ s4 σ4 H4 _ I4 q4) (fun b s5 ⟨H5, I5, q5⟩ => ?_) fun e s' z => absurd z (hx e s'))
    have hl4 : σ4.length = (wipe σ vs).length := by rw [← hw4, wipe_length]
    have last : ∀ {s' : Shared} {σ' : L2.St} {H' : Hp}, L2.Inv Y (pins ++ pinsAt fp s3.heap) σ' H' s' → σ'.length = σ4.length → (∀ (j : Nat) v, (wipe σ4 vsI)[j]? = some (some v) → σ'[j]? = some (some v)) → Nx1 H' →
        ∃ m', m' < n ∧ ∃ j H', L2.Inv Y pins (wipe σ vs) H' s' ∧ tn j s'.heap ∧ (∀ b ∈ fp, H' b = none) ∧ W j m' H' := fun {s' σ' H'} I' hl hw nx => by
      obtain ⟨m', hm, w'⟩ := hNx H' nx
      have pin' : ∀ b ∈ fp, ∀ o, s3.heap.get? b = some o → s'.heap.get? b = some o ∧ H' b = none := fun b hb o e =>
        let z := I'.pin (b, o) (List.mem_append_right _ (List.mem_append_right _ (mem_pinsAt hb e)))
        ⟨z.1, z.2.1⟩
      refine ⟨m', hm, j + 1, H', I'.unpinned.weak (by rw [hl, hl4]) (fun i v e => hw i v ?_), T.keep _ _ _ st3 fun b hb o e => (pin' b hb o e).1, fun b hb => ?_, w'⟩
      · rw [← hw4] at e
        obtain ⟨e1, e2⟩ := wipe_some e
        rw [wipe_out fun z => e2 (hv i z)]
        exact e1
      · obtain ⟨o, e, _⟩ := T.obj _ _ st3 b hb
        exact (pin' b hb o e).2
    cases b with
    | false =>
      rw [if_neg (by decide)] at q5
      exact wpAny_pure ⟨rfl, last I5 rfl (fun i v e => (wipe_some e).1) q5⟩
    | true =>
      rw [if_pos rfl] at q5
      exact bo.run _ σ4 H5 s5 Nx1 _ _ _ I5 q5 fun s' σ' H' I' hl hw nx => wpAny_pure ⟨rfl, last I' hl hw nx⟩
/-- the element goes to the list -/
def tkElt (D : Addr) (te : TE) : L2.St → Hp → (Hp → Prop) → Prop := fun σ H Nx => te σ H fun y H1 => ∃ acc, H1 D = some (.lst acc) ∧ acc.length < sizeLine ∧ Nx (upd H1 D (.lst (acc ++ [y])))
theorem body_elt {elt : Expr} {te : TE} (he : PE Y elt te) (hx : ∀ e s, ¬ Y.xe e s) : BodyOk Y (fun r => do
    (do let _ ← call (.builtin "list.append") [.ref D, ← eval elt Y.env])
    r) vsI (tkElt D te) := ⟨fun pins σ H s Nx r Q E I h fin => by
  refine wpAny_bind (wpAny_bind (wpAny_mono (he.run pins s σ H _ I h) (fun z s1 ⟨yv, H1, I1, r1, acc, hD, hz, nx⟩ => ?_) fun e s' z => absurd z (hx e s')))
  exact wpAny_bind (app_ok I1 hD hz r1 fun s2 I2 => wpAny_pure (fin s2 σ _ I2 rfl (fun j v e => (wipe_some e).1) nx))⟩
/-- a clause within -/
def tkFor (wi : TI) (g : TG) (tt : TT) (tk : L2.St → Hp → (Hp → Prop) → Prop) (vs : List Nat) : L2.St → Hp → (Hp → Prop) → Prop := fun σ H Nx => wi σ H fun J H1 => ∃ W : Nat → Nat → Hp → Prop, (∃ m, W 0 m H1) ∧ clW g tt tk vs J σ W Nx
theorem body_for {iter : Expr} {wi : TI} (hx : ∀ e s, ¬ Y.xe e s) (hc : Y.calm = true) (hk : TurnIs (.ListComp elt0 gs scope lpos) k p tg ifs bodyK) (hi : PI Y tg iter wi) (pg : PG Y tg g) (pt : PTs Y ifs tt) (bo : BodyOk Y (bodyK (.ref D) Y.env) vsI tk) (hv : ∀ i ∈ vsI, i ∈ vs)
    (hs : ∀ x, foldedSetIterable iter Y.env x = pure x)
    (hst : ∀ (it : Addr) (R : Result → Shared → Prop) (s : Shared), codeAny (model Y.prog Y.w) Y.A (.compLoop (.ListComp elt0 gs scope lpos) k (.ref it) (.ref D) Y.env) R s → (∀ (Q : Value → Shared → Prop) (E : Value → Shared → Prop), Q (.ref it) s → wpAny (model Y.prog Y.w) Y.A (pyIter (.ref it)) Q E s) →
      codeAny (model Y.prog Y.w) Y.A (.compStart (.ListComp elt0 gs scope lpos) k (.ref it) (.ref D) Y.env) R s) :
    BodyOk Y (fun r => do let x ← eval iter Y.env; standAt iter.pos; let x ← foldedSetIterable iter Y.env x; let _ ← runOwn (.compStart (.ListComp elt0 gs scope lpos) k (← holding [x] (pyIter x)) (.ref D) Y.env) Y.env; r) vs (tkFor wi g tt tk vs) := ⟨fun pins σ H s Nx r Q E I h fin => by
  refine wpAny_bind (wpAny_mono (hi.run pins s σ H _ I h) (fun x s1 h1 => ?_) fun e s' z => absurd z (hx e s'))
  refine wpAny_bind (wpAny_standAt (wpAny_bind (wpAny_of_eq (hs x) (wpAny_bind (wpAny_holding (wpAny_mono h1 (fun itv s2 h2 => ?_) fun e s' z => absurd z (hx e s')))))))
  obtain ⟨it, fp, tn, J, H2, e, I2, T, st2, f2, W, ⟨m, w0⟩, turn⟩ := h2
  subst e
  refine wpAny_bind (wpAny_runOwn ?_)
  rw [Around.mark_none]
  have lp := loop_ok (D := D) hx hc hk pg pt bo hv T st2 (fun b hb => (f2 b hb).1) (fun {σ' H' s'} I' n' b hb => ⟨n' b hb, (f2 b hb).2⟩) I2 w0 turn
  refine codeAny_mono (hst it _ _ lp fun Q E q => T.self _ _ _ _ _ st2 q) fun r s' hr => ?_
  cases r with
  | error e => exact hr.elim
  | ok f =>
    obtain ⟨H', I', nx⟩ := hr
    have done := fin s' (wipe σ vs) H' I' (wipe_length _ _) (fun _ _ e => e) nx
    first
      | exact wpAny_pure done
      | exact wpAny_bind (wpAny_pure done)
      | exact done⟩
end
section
variable {X : Cx}
/-- a comprehension with any clauses behind the first one -/
def tLcG (wi : TI) (g : TG) (tt : TT) (tk : Addr → L2.St → Hp → (Hp → Prop) → Prop) (vs : List Nat) : TE := fun σ H Q => wi σ H fun J H1 => ∀ D, H1 D = none → ∃ W : Nat → Nat → Hp → Prop, (∃ m, W 0 m (upd H1 D (.lst []))) ∧ clW g tt (tk D) vs J σ W fun H' => Q (.ref D) H'
abbrev BlkA (X : Cx) (scope : Scope) (P : Cx → Prop) : Prop := ∀ (s : Shared) (H : Hp) (C : Addr) (cl : List (Str × Addr)) (fp : List Addr), P (X.blk s H scope (compEnvC scope cl C X.env) fp)
theorem lcG_core {pins : List (Addr × Obj)} {s : Shared} {σ : L2.St} {H : Hp} {Q : VK} {elt tg iter : Expr} {ifs : List Expr} {rest : List Comprehension} {scope : Scope} {own : List (Str × Nat)} {pos pos' : Pos} {wi : TI} {g : TG} {tt : TT} {tk : Addr → L2.St → Hp → (Hp → Prop) → Prop} {vsI : List Nat}
    {use : Option (Value → Sem Unit)} {Qf : Value → Shared → Prop} {bodyK : Value → Env → Sem PySem.Fin → Sem PySem.Fin} (calm : X.calm = true) (dup : X.N.Nodup) (I : L2.Inv X pins σ H s) (hi : PI X tg iter wi) (ok : BlkOk X.N X.env.scope scope own)
    (hk : TurnIs (.ListComp elt (⟨tg, iter, ifs, 0⟩ :: rest) scope pos) 0 iter.pos tg ifs bodyK) (hg : BlkA X scope fun Y => PG Y tg g) (ht : BlkA X scope fun Y => PTs Y ifs tt) (hb : ∀ D, BlkA X scope fun Y => BodyOk Y (bodyK (.ref D) Y.env) vsI (tk D)) (hv : ∀ i ∈ vsI, i ∈ own.map (·.2))
    (hs : ∀ x, foldedSetIterable iter X.env x = pure x) (want : tLcG wi g tt tk (own.map (·.2)) σ H Q)
    (fin : ∀ D C t m G, L2.Inv X pins σ G t → Q (.ref D) G → t.heap.Ns C m → FpOk X pins G C → compPost (model X.prog X.w) X.A X.xe use Qf (.ref D) C (.ok .next) t) :
    wpAny (model X.prog X.w) X.A (comprehension (.ListComp elt (⟨tg, iter, ifs, 0⟩ :: rest) scope pos) scope X.env pos' (newList []) false (eval iter X.env) use) Qf X.xe s := by
  have cells : ∀ y ∈ scope.names, y.2 = .free → ∃ c, X.env.cells.lookup y.1 = some c := fun y hy e => (ok.free y hy e).elim (fun k => I.ok.has _ (.inl k)) fun k => I.ok.has _ (.inr k)
  refine wpAny_comprehension_free (use := use) rfl hs (closure_ok cells) ok.kind (fun y hy e => by rw [ok.uniq y hy, e]) (thn (hi.run pins s σ H _ I want) fun xv t1 hx => thn hx fun itv t2 got => ?_)
  obtain ⟨it, fp, tn, J, G2, e, I2, T, st2, f2, q⟩ := got
  subst e
  refine wpAny_newObj_type (newEnv_comp ?_) (by show 0 ≤ sizeLine; decide)
  generalize eD : t2.heap.objs.size = D
  obtain ⟨W, ⟨m0, w0⟩, turn⟩ := q D (I2.hok.fresh (Nat.le_of_eq eD))
  generalize e3 : ({ t2 with heap := t2.heap.push { cls := .type "list", data := .seq ([] : List Value).toArray } } : Shared) = t3
  have I3 : L2.Inv X pins σ (upd G2 D (.lst [])) t3 := by
    rw [← e3]
    exact I2.laid (t' := t2.toks) (fun b o e => Heap.get?_push_of_some _ e) (Nat.le_of_eq eD) ⟨Nat.zero_le _, [], 0, .nil, by rw [← eD]; exact Heap.get?_push_size _ rfl⟩
  have h3 : t3.heap = t2.heap.push { cls := .type "list", data := .seq ([] : List Value).toArray } := by rw [← e3]
  have f3 : ∀ b ∈ fp, FpOk X pins (upd G2 D (.lst [])) b ∧ b < t3.heap.objs.size := fun b hb => by
    obtain ⟨o, eo, _⟩ := T.obj _ _ st2 b hb
    have lt := Heap.lt_size eo
    exact ⟨⟨by rw [upd_ne (by rw [← eD]; exact Nat.ne_of_lt lt)]; exact (f2 b hb).1, (f2 b hb).2⟩, by rw [h3, Heap.size_push]; exact Nat.lt_succ_of_lt lt⟩
  have st3 : tn 0 t3.heap := T.keep _ _ _ st2 fun b _ o e => by rw [h3]; exact Heap.get?_push_of_some _ e
  have I4 := block_start I3 ok dup f3
  have pg := hg t3 (upd G2 D (.lst [])) t3.heap.objs.size (cellsFrom (t3.heap.objs.size + 1) scope.names (cloFrom X.env.cells scope.names [])) fp
  have pt := ht t3 (upd G2 D (.lst [])) t3.heap.objs.size (cellsFrom (t3.heap.objs.size + 1) scope.names (cloFrom X.env.cells scope.names [])) fp
  have pb := hb D t3 (upd G2 D (.lst [])) t3.heap.objs.size (cellsFrom (t3.heap.objs.size + 1) scope.names (cloFrom X.env.cells scope.names [])) fp
  show codeAny _ _ (.compStart (.ListComp elt (⟨tg, iter, ifs, 0⟩ :: rest) scope pos) 0 (.ref it) (.ref D) (compEnvC scope (cellsFrom (t3.heap.objs.size + 1) scope.names (cloFrom X.env.cells scope.names [])) t3.heap.objs.size X.env)) (compPost (model X.prog X.w) X.A X.xe use Qf (.ref D) t3.heap.objs.size)
    { t3 with heap := pushCells (t3.heap.push { cls := .type "dict", data := .dict #[] }) scope.names }
  generalize ec : compEnvC scope (cellsFrom (t3.heap.objs.size + 1) scope.names (cloFrom X.env.cells scope.names [])) t3.heap.objs.size X.env = ce at I4 pg pt pb ⊢
  have cL : ce.locals = t3.heap.objs.size := by subst ec; rfl
  generalize upd G2 D (.lst []) = G3 at I3 I4 pg pt pb w0 f3
  generalize e4 : ({ t3 with heap := pushCells (t3.heap.push { cls := .type "dict", data := .dict #[] }) scope.names } : Shared) = t4 at I4 ⊢
  have st4 : tn 0 t4.heap := T.keep _ _ _ st3 fun b _ o e => by rw [← e4]; exact pushCells_keeps _ _ _ _ (Heap.get?_push_of_some _ e)
  have lp := loop_ok (D := D) (Y := X.blk t3 G3 scope ce fp) (fun _ _ z => z.elim) calm hk pg pt pb hv T st4 (fun b hb => (f3 b hb).1.1)
    (fun {σ' H' s'} I' n' b hb => ⟨n' b hb, (I'.ok.exf b hb).1, I'.ok.exfs b hb, .inl hb, fun x c e => (I'.ok.exf b hb).2 x c e, fun p hp => absurd (show p ∈ ([] : List (Addr × Obj)) ++ [] from hp) (by simp)⟩) I4 w0
    (Nx := fun G => Q (.ref D) G) (σ := wipe σ (own.map (·.2))) (by
      intro j m G w
      rcases turn j m G w with z | ⟨go, Nx1, h1, h2⟩
      · exact .inl z
      · refine .inr ⟨go, Nx1, h1, fun x G' y => ?_⟩
        rw [wipe_wipe fun _ h => h]
        exact h2 x G' y)
  have lp2 : codeAny (model X.prog X.w) X.A (.compLoop (.ListComp elt (⟨tg, iter, ifs, 0⟩ :: rest) scope pos) 0 (.ref it) (.ref D) ce) (compPost (model X.prog X.w) X.A X.xe use Qf (.ref D) t3.heap.objs.size) t4 := by
    refine codeAny_mono lp fun r t5 hr => ?_
    cases r with
    | error e => exact hr.elim
    | ok f =>
      obtain ⟨G5, I5, q5⟩ := hr
      have I6 : L2.Inv X pins σ G5 t5 := I3.call' (ch := fp) I5.os I5.base I5.hok I5.bare fun b hb => ⟨(f3 b hb).1.2.2.2.1, (f3 b hb).1.2.1, (f3 b hb).1.2.2.2.2.1, (f3 b hb).1.2.2.2.2.2⟩
      have nC : G5 t3.heap.objs.size = none := by
        have z : G5 ce.locals = none := I5.free
        rw [cL] at z
        exact z
      obtain ⟨m, hn, _⟩ := I5.loc
      have hn' : t5.heap.Ns t3.heap.objs.size m := by rw [← cL]; exact hn
      have done := fin D t3.heap.objs.size t5 m G5 I6 q5 hn' (I3.fpOk (Nat.le_refl _) nC)
      cases use with
      | none => exact done
      | some u => exact done
  exact codeAny_compStart_list lp2 (T.self X.A 0 _ _ _ st4 lp2)
end
section
variable {X : Cx} {elt tg iter : Expr} {ifs : List Expr} {rest : List Comprehension} {scope : Scope} {own : List (Str × Nat)} {pos : Pos} {wi : TI} {g : TG} {tt : TT} {tk : Addr → L2.St → Hp → (Hp → Prop) → Prop} {vsI : List Nat} {bodyK : Value → Env → Sem PySem.Fin → Sem PySem.Fin}
theorem pe_lcG (calm : X.calm = true) (dup : X.N.Nodup) (hi : PI X tg iter wi) (ok : BlkOk X.N X.env.scope scope own) (hk : TurnIs (.ListComp elt (⟨tg, iter, ifs, 0⟩ :: rest) scope pos) 0 iter.pos tg ifs bodyK) (hg : BlkA X scope fun Y => PG Y tg g) (ht : BlkA X scope fun Y => PTs Y ifs tt)
    (hb : ∀ D, BlkA X scope fun Y => BodyOk Y (bodyK (.ref D) Y.env) vsI (tk D)) (hv : ∀ i ∈ vsI, i ∈ own.map (·.2)) (hs : ∀ x, foldedSetIterable iter X.env x = pure x) : PE X (.ListComp elt (⟨tg, iter, ifs, 0⟩ :: rest) scope pos) (tLcG wi g tt tk (own.map (·.2))) := by
  refine ⟨fun pins s σ H Q I want => ?_⟩
  rw [eval_ListComp]
  refine lcG_core calm dup I hi ok hk hg ht hb hv hs want fun D C t m G J q hn f => ⟨m, hn, fun h2 sb => ?_⟩
  obtain ⟨f0, f1, f2, f3, f4, f5⟩ := f
  exact ⟨.ref D, G, J.turned (t' := t.toks) (fun b o hb e => (sb.2 b hb).trans e) f0 f1 f3 f4 f5, rfl, q⟩
theorem ps_setLcG {i : Nat} {y : Str} {py spos : Pos} (calm : X.calm = true) (dup : X.N.Nodup) (hy : X.N[i]? = some y) (hyl : X.env.scope.names.lookup y = some .local) (hsw : swapsWith (.ListComp elt (⟨tg, iter, ifs, 0⟩ :: rest) scope pos) (some (.Name y py)) spos.line X.env = pure true) (hi : PI X tg iter wi)
    (ok : BlkOk X.N X.env.scope scope own) (hk : TurnIs (.ListComp elt (⟨tg, iter, ifs, 0⟩ :: rest) scope pos) 0 iter.pos tg ifs bodyK) (hg : BlkA X scope fun Y => PG Y tg g) (ht : BlkA X scope fun Y => PTs Y ifs tt) (hb : ∀ D, BlkA X scope fun Y => BodyOk Y (bodyK (.ref D) Y.env) vsI (tk D)) (hv : ∀ i ∈ vsI, i ∈ own.map (·.2))
    (hs : ∀ x, foldedSetIterable iter X.env x = pure x) : PS X (.Assign [.Name y py] (.ListComp elt (⟨tg, iter, ifs, 0⟩ :: rest) scope pos) spos) (tAsg (tLcG wi g tt tk (own.map (·.2))) (gName i)) := by
  refine ⟨fun pins s σ H D I want => ?_⟩
  rw [exec_Assign_Name_used _ _ _ _ hsw]
  refine wpAny_bind (wpAny_standAt (wpAny_bind ?_))
  show wpAny _ X.A (do let _ ← comprehension (.ListComp elt (⟨tg, iter, ifs, 0⟩ :: rest) scope pos) scope X.env (firstIterPos (⟨tg, iter, ifs, 0⟩ :: rest) pos) (newList []) false (eval iter X.env) (some (assign (.Name y py) X.env))) _ _ s
  have want2 : tLcG wi g tt tk (own.map (·.2)) σ H (fun x H1 => gName i x σ H1 D.nx) := want
  refine wpAny_bind (thn (lcG_core (Qf := fun _ s' => SP X pins D .next s') calm dup I hi ok hk hg ht hb hv hs want2 fun L C t m G J q hn f => ?_) fun _ s' hq => wpAny_pure (wpAny_pure hq))
  show wpAny _ _ (assign (.Name y py) X.env (.ref L)) _ _ _
  refine wpAny_assign_Name (store_ok2 (v := V.ref L) J dup hy (.inl hyl) rfl (fun t2 J2 ⟨a, sb, ha⟩ => ?_) (.inr hyl))
  obtain ⟨f0, f1, f2, f3, f4, f5⟩ := f
  have apart : C ≠ a := ha.elim (fun z => by rw [z]; exact f1) fun z e => f4 y a z e.symm
  exact ⟨m, hn.sameBut sb apart, fun h3 sb3 => ⟨_, G, J2.turned (t' := t2.toks) (fun b o hb e => (sb3.2 b hb).trans e) f0 f1 f3 f4 f5, q⟩⟩
end
/-! the clauses' turns -/
def kFor (code : Expr) (k : Nat) (iter : Expr) : Value → Env → Sem PySem.Fin → Sem PySem.Fin := fun acc env r => do
  let x ← eval iter env
  standAt iter.pos
  let x ← foldedSetIterable iter env x
  let _ ← runOwn (.compStart code k (← holding [x] (pyIter x)) acc env) env
  r
def kElt (elt : Expr) : Value → Env → Sem PySem.Fin → Sem PySem.Fin := fun acc env r => do
  (do let _ ← call (.builtin "list.append") [acc, ← eval elt env])
  r
section
variable {elt t0 i0 t1 i1 t2 i2 : Expr} {c0 c1 c2 : List Expr} {scope : Scope} {pos : Pos}
theorem turn_20 : TurnIs (.ListComp elt [⟨t0, i0, c0, 0⟩, ⟨t1, i1, c1, 0⟩] scope pos) 0 i0.pos t0 c0 (kFor (.ListComp elt [⟨t0, i0, c0, 0⟩, ⟨t1, i1, c1, 0⟩] scope pos) 1 i1) := fun _ _ _ => rfl
theorem turn_21 : TurnIs (.ListComp elt [⟨t0, i0, c0, 0⟩, ⟨t1, i1, c1, 0⟩] scope pos) 1 i1.pos t1 c1 (kElt elt) := fun _ _ _ => rfl
theorem turn_30 : TurnIs (.ListComp elt [⟨t0, i0, c0, 0⟩, ⟨t1, i1, c1, 0⟩, ⟨t2, i2, c2, 0⟩] scope pos) 0 i0.pos t0 c0 (kFor (.ListComp elt [⟨t0, i0, c0, 0⟩, ⟨t1, i1, c1, 0⟩, ⟨t2, i2, c2, 0⟩] scope pos) 1 i1) := fun _ _ _ => rfl
theorem turn_31 : TurnIs (.ListComp elt [⟨t0, i0, c0, 0⟩, ⟨t1, i1, c1, 0⟩, ⟨t2, i2, c2, 0⟩] scope pos) 1 i1.pos t1 c1 (kFor (.ListComp elt [⟨t0, i0, c0, 0⟩, ⟨t1, i1, c1, 0⟩, ⟨t2, i2, c2, 0⟩] scope pos) 2 i2) := fun _ _ _ => rfl
theorem turn_32 : TurnIs (.ListComp elt [⟨t0, i0, c0, 0⟩, ⟨t1, i1, c1, 0⟩, ⟨t2, i2, c2, 0⟩] scope pos) 2 i2.pos t2 c2 (kElt elt) := fun _ _ _ => rfl
end
/-- a clause's start: its iterator once more -/
def StartIs (code : Expr) (k : Nat) : Prop := ∀ (prog : Program) (w : World) (A : Around) (it : Addr) (acc : Value) (env : Env) (R : Result → Shared → Prop) (s : Shared), codeAny (model prog w) A (.compLoop code k (.ref it) acc env) R s →
  (∀ (Q : Value → Shared → Prop) (E : Value → Shared → Prop), Q (.ref it) s → wpAny (model prog w) A (pyIter (.ref it)) Q E s) → codeAny (model prog w) A (.compStart code k (.ref it) acc env) R s
section
variable {elt t0 i0 t1 i1 t2 i2 : Expr} {c0 c1 c2 : List Expr} {scope : Scope} {pos : Pos}
theorem start_21 : StartIs (.ListComp elt [⟨t0, i0, c0, 0⟩, ⟨t1, i1, c1, 0⟩] scope pos) 1 := fun prog w A it acc env R s h0 h => by
  exact compStart1_ok h0 (h _ _ h0)
theorem start_3 (k : Nat) (hk : k = 1 ∨ k = 2) : StartIs (.ListComp elt [⟨t0, i0, c0, 0⟩, ⟨t1, i1, c1, 0⟩, ⟨t2, i2, c2, 0⟩] scope pos) k := fun prog w A it acc env R s h0 h => by
  rcases hk with rfl | rfl
  all_goals
    refine codeAny_of_tree ?_
    refine wpAny_notedAt (m := compStart (.ListComp elt [⟨t0, i0, c0, 0⟩, ⟨t1, i1, c1, 0⟩, ⟨t2, i2, c2, 0⟩] scope pos) _ (.ref it) acc env) ?_
    unfold compStart
    refine wpAny_bind (wpAny_askSetting (wpAny_ite ?_))
    split
    · first
        | exact wpAny_bind (wpAny_pure (wpAny_pure (And.intro rfl h0)))
        | exact wpAny_pure (And.intro rfl h0)
    · refine wpAny_bind (wpAny_rule ?_)
      refine wpAny_bind (wpAny_standAt ?_)
      exact wpAny_bind (h _ _ (wpAny_pure (And.intro rfl h0)))
end
end DL

/-! DMd: comprehensions with several for clauses, over data. -/
namespace DL
open PySem PySem.Spec PyProof.Rows L2
abbrev DK := DEnv → Kap → (Kap → Prop) → Prop
def cElt (n : Nat) (e : DE) : DK := fun δ κ K => e δ κ XF fun y κ3 => ∃ acc, κ3 n = some (.live .lst acc) ∧ acc.length < sizeLine ∧ K (kset κ3 n (.live .lst (acc ++ [y])))
def cLoop (t : TN) (tt : DT) (vs : List Nat) (rest : DK) (gd : Kap → Prop) (δ : DEnv) (K : Kap → Prop) : List D → Kap → Prop
  | [], κ => gd κ ∧ K κ
  | d :: ds, κ => gd κ ∧ ∃ δ1, bindT t d (dwipe δ vs) κ = some δ1 ∧ tt δ1 κ XF fun b κ2 => if b = true then rest δ1 κ2 (cLoop t tt vs rest gd δ K ds) else cLoop t tt vs rest gd δ K ds κ2
def cFor (it : DI) (t : TN) (tt : DT) (vs : List Nat) (rest : DK) : DK := fun δ κ K => it δ κ XF fun items gd κ1 => cLoop t tt vs rest gd δ K items κ1
def dLcG (m : Bool) (it : DI) (t : TN) (tt : DT) (rest : Nat → DK) (vs : List Nat) : DE := fun δ κ X Q => it δ κ X fun items gd κ1 => ∀ n, κ1 n = none →
  cLoop t tt vs (rest n) gd δ (fun κ' => ∃ acc, κ' n = some (.live .lst acc) ∧ if m = true then Q (.cell n) κ' else Q (.lst acc) (kset κ' n .dead)) items (kset κ1 n (.live .lst []))
theorem cLoop_gd {t : TN} {tt : DT} {vs : List Nat} {rest : DK} {gd : Kap → Prop} {δ : DEnv} {K : Kap → Prop} {ds : List D} {κ : Kap} (h : cLoop t tt vs rest gd δ K ds κ) : gd κ := by
  cases ds with
  | nil => exact h.1
  | cons d ds => exact h.1
/-- a reading within a comprehension whose list is the cell n, at D -/
def liftK (C : Ctx) (D : Addr) (n : Nat) (dk : DK) : L2.St → Hp → (Hp → Prop) → Prop := fun σ H Nx => ∃ F ρ κ δ K, StR C F ρ κ H ∧ RepS C F ρ δ σ ∧ ρ n = some D ∧ dk δ κ K ∧ ∀ F' ρ' κ' H', Ext F ρ F' ρ' → StR C F' ρ' κ' H' → K κ' → Nx H'
section
variable {C : Ctx} {D0 : Addr} {n : Nat}
theorem lift_cElt {e : DE} {σ : L2.St} {H : Hp} {Nx : Hp → Prop} (h : liftK C D0 n (cElt n e) σ H Nx) : tkElt D0 (liftE C WF e) σ H Nx := by
  obtain ⟨F, ρ, κ, δ, K, S, R, hr, h, P⟩ := h
  refine ⟨F, ρ, κ, δ, XF, _, S, R, h, fun F1 ρ1 κ1 H1 y v e1 S1 R1 ⟨acc, h1, h2, h3⟩ => ?_, fun _ _ _ _ _ _ _ _ _ _ _ _ _ _ z => z.elim⟩
  obtain ⟨a, ws, g1, g2, g3, g4⟩ := S1.live n _ _ h1
  rw [e1.r _ _ hr] at g1
  cases g1
  have g3' : H1 D0 = some (.lst ws) := g3
  refine ⟨ws, g3', by rw [← g4.length]; exact h2, P F1 ρ1 _ _ e1 ?_ h3⟩
  exact S1.write (k' := .lst) h1 (e1.r _ _ hr) (fun _ q => q) (g4.append (.cons R1 .nil))
/-- the loop of a clause -/
theorem lift_cLoop {t : TN} {tt : DT} {vs : List Nat} {rest : DK} {gd : Kap → Prop} {δ : DEnv} {K : Kap → Prop} {items : List D} {κ : Kap} {F : Hp} {ρ : Loc0} {H : Hp} {σ : L2.St} {J : It} {Nx : Hp → Prop} (hi : ∀ i ∈ (match t with | .inl i => [i] | .inr is => is), i ∈ vs)
    (S : StR C F ρ κ H) (R : RepS C F ρ δ σ) (hr : ρ n = some D0) (hJ : ItOk C F ρ J items gd) (h : cLoop t tt vs rest gd δ K items κ) {tk : L2.St → Hp → (Hp → Prop) → Prop} (htk : ∀ {σ H Nx}, liftK C D0 n rest σ H Nx → tk σ H Nx) (P : ∀ F' ρ' κ' H', Ext F ρ F' ρ' → StR C F' ρ' κ' H' → K κ' → Nx H') :
    ∃ W : Nat → Nat → Hp → Prop, (∃ m, W 0 m H) ∧ clW (gvT C.K t) (liftT C WF tt) tk vs J σ W Nx := by
  refine ⟨fun i m H => ∃ F3 ρ3 κ3, Ext F ρ F3 ρ3 ∧ StR C F3 ρ3 κ3 H ∧ i ≤ items.length ∧ m = items.length - i ∧ cLoop t tt vs rest gd δ K (items.drop i) κ3, ⟨_, F, ρ, κ, Ext.refl _ _, S, Nat.zero_le _, rfl, h⟩, ?_⟩
  rintro i m H3 ⟨F3, ρ3, κ3, e3, S3, hi3, rfl, h3⟩
  have hr3 := e3.r _ _ hr
  obtain ⟨q1, q2⟩ := hJ F3 ρ3 κ3 H3 i e3 S3 (cLoop_gd h3)
  by_cases hlt : i < items.length
  · obtain ⟨q3, q4⟩ := q2 _ (List.getElem?_eq_getElem hlt)
    rw [List.drop_eq_getElem_cons hlt] at h3
    obtain ⟨_, δ1, hb, h4⟩ := h3
    refine .inr ⟨q3, _, fun _ z => z, fun x H4 hy => ?_⟩
    obtain ⟨F4, e4, S4, R4⟩ := q4 x H4 hy
    have e34 := e3.trans e4
    refine bindT_at (σ0 := L2.wipe σ vs) S4 hi hb ((R.ext e34).wipe vs) R4 (wipe_wipe fun _ z => z) fun σ5 R5 hw => ⟨hw, F4, ρ3, κ3, δ1, XF, _, S4, R5, h4, fun F5 ρ5 κ5 H5 b e5 S5 h5 => ?_, fun _ _ _ _ _ _ _ _ _ _ _ _ _ _ z => z.elim⟩
    cases b with
    | true =>
      rw [if_pos rfl] at h5
      show tk σ5 H5 _
      exact htk ⟨F5, ρ5, κ5, δ1, _, S5, R5.ext e5, (e4.trans e5).r _ _ hr3, h5, fun F6 ρ6 κ6 H6 e6 S6 h6 => ⟨items.length - (i + 1), by omega, F6, ρ6, κ6, (e3.trans e4).trans (e5.trans e6), S6, hlt, rfl, h6⟩⟩
    | false =>
      rw [if_neg (by decide)] at h5
      exact ⟨items.length - (i + 1), by omega, F5, ρ5, κ5, (e3.trans e4).trans e5, S5, hlt, rfl, h5⟩
  · have e : i = items.length := by omega
    subst e
    rw [List.drop_length] at h3
    exact .inl ⟨q1 rfl, P _ _ _ _ e3 S3 h3.2⟩
theorem lift_cFor {it : DI} {t : TN} {tt : DT} {vs : List Nat} {rest : DK} {σ : L2.St} {H : Hp} {Nx : Hp → Prop} (hi : ∀ i ∈ (match t with | .inl i => [i] | .inr is => is), i ∈ vs) {tk : L2.St → Hp → (Hp → Prop) → Prop} (htk : ∀ {σ H Nx}, liftK C D0 n rest σ H Nx → tk σ H Nx)
    (h : liftK C D0 n (cFor it t tt vs rest) σ H Nx) : tkFor (liftI C WF it) (gvT C.K t) (liftT C WF tt) tk vs σ H Nx := by
  obtain ⟨F, ρ, κ, δ, K, S, R, hr, h, P⟩ := h
  exact ⟨F, ρ, κ, δ, XF, _, S, R, h, fun F1 ρ1 κ1 H1 J items gd e1 S1 hJ h1 => lift_cLoop hi S1 (R.ext e1) (e1.r _ _ hr) hJ h1 htk fun F' ρ' κ' H' e' => P F' ρ' κ' H' (e1.trans e'), fun _ _ _ _ _ _ _ _ _ _ _ _ _ _ z => z.elim⟩
theorem lift_lcG {W : WX} {m : Bool} {it : DI} {t : TN} {tt : DT} {rest : Nat → DK} {vs : List Nat} {σ : L2.St} {H : Hp} {Q : VK} (hi : ∀ i ∈ (match t with | .inl i => [i] | .inr is => is), i ∈ vs) (h : liftE C W (dLcG m it t tt rest vs) σ H Q) :
    tLcG (liftI C W it) (gvT C.K t) (liftT C WF tt) (fun D σ H Nx => ∃ n, liftK C D n (rest n) σ H Nx) vs σ H Q := by
  obtain ⟨F, ρ, κ, δ, XD, QD, S, R, h, P, PX⟩ := h
  refine ⟨F, ρ, κ, δ, XD, _, S, R, h, fun F1 ρ1 κ1 H1 J items gd e1 S1 hJ h1 D1 hD => ?_, PX⟩
  obtain ⟨n, hn⟩ := S1.fresh
  obtain ⟨ρ2, e2, hr2, S2⟩ := S1.cell (o := .lst []) (k := .lst) (vs := []) (xs := []) hD (fun _ q => q) .nil hn
  have hJ2 : ItOk C F1 ρ2 J items gd := fun F' ρ' κ' H' i e' => hJ F' ρ' κ' H' i (e2.trans e')
  exact lift_cLoop (D0 := D1) (n := n) (Nx := fun H' => Q (.ref D1) H') hi S2 (R.ext (e1.trans e2)) hr2 hJ2 (h1 n hn) (fun z => ⟨n, z⟩) fun F' ρ' κ' H' e' S' ⟨acc, a1, a2⟩ => by
    have hr3 := e'.r _ _ hr2
    cases m with
    | true => exact P _ _ _ _ _ _ (e1.trans (e2.trans e')) S' (.cell hr3) a2
    | false =>
      obtain ⟨F4, e4, r4, S4⟩ := S'.freeze a1 hr3
      exact P _ _ _ _ _ _ (e1.trans (e2.trans (e'.trans e4))) S4 r4 a2
end
theorem BodyOk.imp {Y : Cx} {bk : Sem PySem.Fin → Sem PySem.Fin} {vsI : List Nat} {tk tk' : L2.St → Hp → (Hp → Prop) → Prop} (b : BodyOk Y bk vsI tk) (h : ∀ {σ H Nx}, tk' σ H Nx → tk σ H Nx) : BodyOk Y bk vsI tk' :=
  ⟨fun pins σ H s Nx r Q E I q fin => b.run pins σ H s Nx r Q E I (h q) fin⟩
section
variable {Y : Cx} {elt0 tg iter : Expr} {gs : List Comprehension} {scope : Scope} {lpos : Pos} {ifs : List Expr} {k : Nat} {p : Pos} {bodyK : Value → Env → Sem PySem.Fin → Sem PySem.Fin} {D0 : Addr} {vs vsI : List Nat}
theorem bodyD_elt {a : DE} (hx : ∀ e s, ¬ Y.xe e s) (he : PED Y WF elt0 a) : BodyOk Y (kElt elt0 (.ref D0) Y.env) [] (fun σ H Nx => ∃ n, liftK (CtxOf Y) D0 n (cElt n a) σ H Nx) :=
  BodyOk.imp (body_elt (vsI := []) he hx) fun ⟨n, q⟩ => lift_cElt q
theorem bodyD_for {it : DI} {t : TN} {tt : DT} {rest : Nat → DK} (hx : ∀ e s, ¬ Y.xe e s) (hc : Y.calm = true) (hk : TurnIs (.ListComp elt0 gs scope lpos) k p tg ifs bodyK) (hst : StartIs (.ListComp elt0 gs scope lpos) k) (hi : PID Y WF tg iter it) (pg : PG Y tg (gvT Y.K t)) (pt : PTsD Y WF ifs tt)
    (bo : BodyOk Y (bodyK (.ref D0) Y.env) vsI (fun σ H Nx => ∃ n, liftK (CtxOf Y) D0 n (rest n) σ H Nx)) (hv : ∀ i ∈ vsI, i ∈ vs) (hn : ∀ i ∈ (match t with | .inl i => [i] | .inr is => is), i ∈ vs) (hs : ∀ x, foldedSetIterable iter Y.env x = pure x) :
    BodyOk Y (kFor (.ListComp elt0 gs scope lpos) k iter (.ref D0) Y.env) vs (fun σ H Nx => ∃ n, liftK (CtxOf Y) D0 n (cFor it t tt vs (rest n)) σ H Nx) :=
  BodyOk.imp (body_for hx hc hk hi pg pt bo hv hs (fun it R s => hst _ _ _ it _ _ R s)) fun ⟨n, q⟩ => lift_cFor hn (fun z => ⟨n, z⟩) q
end
section
variable {X : Cx} {W : WX} {elt tg0 i0 tg1 i1 tg2 i2 : Expr} {c0 c1 c2 : List Expr} {it0 it1 it2 : DI} {tt0 tt1 tt2 : DT} {a : DE} {pos : Pos} {k : Nat} {scope : Scope}
theorem pd_lc2 (m : Bool) (own : List (Str × Nat)) (t0 t1 : TN) (v1 : List Nat) (G : Good k X W) (hi : PID X W tg0 i0 it0) (hg : BlkA X scope fun Y => PG Y tg0 (gvT X.K t0)) (ht : BlkA X scope fun Y => PTsD Y WF c0 tt0)
    (hi1 : BlkA X scope fun Y => PID Y WF tg1 i1 it1) (hg1 : BlkA X scope fun Y => PG Y tg1 (gvT X.K t1)) (ht1 : BlkA X scope fun Y => PTsD Y WF c1 tt1) (he : BlkA X scope fun Y => PED Y WF elt a)
    (ok : blkC X.N X.env.scope scope own = true := by kernel_rfl) (n0 : ∀ i ∈ (match t0 with | .inl i => [i] | .inr is => is), i ∈ own.map (·.2) := by decide) (n1 : ∀ i ∈ (match t1 with | .inl i => [i] | .inr is => is), i ∈ v1 := by decide) (hv : ∀ i ∈ v1, i ∈ own.map (·.2) := by decide)
    (hs : ∀ x, foldedSetIterable i0 X.env x = pure x := by intro _; rfl) (hs1 : ∀ env x, foldedSetIterable i1 env x = pure x := by intro _ _; rfl) :
    PED X W (.ListComp elt [⟨tg0, i0, c0, 0⟩, ⟨tg1, i1, c1, 0⟩] scope pos) (dLcG m it0 t0 tt0 (fun n => cFor it1 t1 tt1 v1 (cElt n a)) (own.map (·.2))) :=
  pe_weak (pe_lcG (tk := fun D σ H Nx => ∃ n, liftK (CtxOf X) D n (cFor it1 t1 tt1 v1 (cElt n a)) σ H Nx) (vsI := v1) G.calm G.nd hi (blkOk_by ok) turn_20 hg ht (fun D s H C cl fp =>
    bodyD_for (rest := fun n => cElt n a) (fun _ _ z => False.elim z) G.calm turn_21 start_21 (hi1 s H C cl fp) (hg1 s H C cl fp) (ht1 s H C cl fp) (bodyD_elt (fun _ _ z => False.elim z) (he s H C cl fp)) (fun _ z => absurd z List.not_mem_nil) n1 (hs1 _)) hv hs) fun _ _ _ => lift_lcG n0
theorem pd_lc3 (m : Bool) (own : List (Str × Nat)) (t0 t1 t2 : TN) (v1 v2 : List Nat) (G : Good k X W) (hi : PID X W tg0 i0 it0) (hg : BlkA X scope fun Y => PG Y tg0 (gvT X.K t0)) (ht : BlkA X scope fun Y => PTsD Y WF c0 tt0)
    (hi1 : BlkA X scope fun Y => PID Y WF tg1 i1 it1) (hg1 : BlkA X scope fun Y => PG Y tg1 (gvT X.K t1)) (ht1 : BlkA X scope fun Y => PTsD Y WF c1 tt1)
    (hi2 : BlkA X scope fun Y => PID Y WF tg2 i2 it2) (hg2 : BlkA X scope fun Y => PG Y tg2 (gvT X.K t2)) (ht2 : BlkA X scope fun Y => PTsD Y WF c2 tt2) (he : BlkA X scope fun Y => PED Y WF elt a)
    (ok : blkC X.N X.env.scope scope own = true := by kernel_rfl) (n0 : ∀ i ∈ (match t0 with | .inl i => [i] | .inr is => is), i ∈ own.map (·.2) := by decide) (n1 : ∀ i ∈ (match t1 with | .inl i => [i] | .inr is => is), i ∈ v1 := by decide)
    (n2 : ∀ i ∈ (match t2 with | .inl i => [i] | .inr is => is), i ∈ v2 := by decide) (hv : ∀ i ∈ v1, i ∈ own.map (·.2) := by decide) (hv2 : ∀ i ∈ v2, i ∈ v1 := by decide)
    (hs : ∀ x, foldedSetIterable i0 X.env x = pure x := by intro _; rfl) (hs1 : ∀ env x, foldedSetIterable i1 env x = pure x := by intro _ _; rfl) (hs2 : ∀ env x, foldedSetIterable i2 env x = pure x := by intro _ _; rfl) :
    PED X W (.ListComp elt [⟨tg0, i0, c0, 0⟩, ⟨tg1, i1, c1, 0⟩, ⟨tg2, i2, c2, 0⟩] scope pos) (dLcG m it0 t0 tt0 (fun n => cFor it1 t1 tt1 v1 (cFor it2 t2 tt2 v2 (cElt n a))) (own.map (·.2))) :=
  pe_weak (pe_lcG (tk := fun D σ H Nx => ∃ n, liftK (CtxOf X) D n (cFor it1 t1 tt1 v1 (cFor it2 t2 tt2 v2 (cElt n a))) σ H Nx) (vsI := v1) G.calm G.nd hi (blkOk_by ok) turn_30 hg ht (fun D s H C cl fp =>
    bodyD_for (rest := fun n => cFor it2 t2 tt2 v2 (cElt n a)) (fun _ _ z => False.elim z) G.calm turn_31 (start_3 1 (.inl rfl)) (hi1 s H C cl fp) (hg1 s H C cl fp) (ht1 s H C cl fp)
      (bodyD_for (rest := fun n => cElt n a) (fun _ _ z => False.elim z) G.calm turn_32 (start_3 2 (.inr rfl)) (hi2 s H C cl fp) (hg2 s H C cl fp) (ht2 s H C cl fp) (bodyD_elt (fun _ _ z => False.elim z) (he s H C cl fp)) (fun _ z => absurd z List.not_mem_nil) n2 (hs2 _)) hv2 n1 (hs1 _)) hv hs) fun _ _ _ => lift_lcG n0
end
end DL

/-! DMf: enumerate, tuple(..), x[::-1], n += .. -/
namespace DL
open PySem PySem.Spec PyProof.Rows L2
/-! ### enumerate -/
def enumD : Nat → List D → List D
  | _, [] => []
  | i, y :: ys => .node .tup [.int (i : Nat), y] :: enumD (i + 1) ys
theorem enumD_len : ∀ (ys : List D) (i : Nat), (enumD i ys).length = ys.length
  | [], _ => rfl
  | y :: ys, i => by
    show (enumD (i + 1) ys).length + 1 = _
    rw [enumD_len ys (i + 1), List.length_cons]
theorem enumD_get : ∀ (ys : List D) (i k : Nat), (enumD i ys)[k]? = (ys[k]?).map fun y => .node .tup [.int ((i + k : Nat) : Int), y]
  | [], _, _ => by simp [enumD]
  | y :: ys, i, 0 => rfl
  | y :: ys, i, k + 1 => by
    show (enumD (i + 1) ys)[k]? = _
    rw [enumD_get ys (i + 1) k, List.getElem?_cons_succ, show i + 1 + k = i + (k + 1) by omega]
def eQ (QI : List D → (Kap → Prop) → Kap → Prop) (xs : List D) (κ : Kap) : Prop := match xs with
  | [.cell n] => ∃ ys, κ n = some (.live .lst ys) ∧ QI (enumD 0 ys) (fun κ => κ n = some (.live .lst ys)) κ
  | [.node .lst ys] => QI (enumD 0 ys) gTrue κ
  | _ => False
def iEnumD (as : DA) : DI := fun δ κ X QI => as δ κ X (eQ QI)
theorem itOk_e {C : Ctx} {F : Hp} {ρ : Loc0} {a : Addr} {xs : List D} {g : Kap → Prop} (hk : ∀ F' ρ' κ' H', Ext F ρ F' ρ' → StR C F' ρ' κ' H' → g κ' → ∃ vs, SqL C.K H' a vs ∧ RepL C F' ρ' xs vs) : ItOk C F ρ (Ite C.K a) (enumD 0 xs) g := fun F' ρ' κ' H' i e S hg => by
  obtain ⟨vs, hs, rl⟩ := hk _ _ _ _ e S hg
  refine ⟨fun hi => ⟨vs, hs, by rw [hi, enumD_len, ← rl.length]; exact Nat.le_refl _⟩, fun d hd => ?_⟩
  rw [enumD_get, Option.map_eq_some_iff] at hd
  obtain ⟨y, hy, rfl⟩ := hd
  obtain ⟨v, hv, rv⟩ := rl.get hy
  refine ⟨⟨vs, v, hs, hv⟩, fun x H2 ⟨T, w, h1, h2, h3, h4⟩ => ?_⟩
  subst h1 h3
  have ev : v = w := Option.some.inj (hv.symm.trans (h4 vs hs))
  subst ev
  obtain ⟨ex, S2⟩ := S.laid (p := T) (o := .tup [.int (i : Nat), v]) h2
  refine ⟨_, ex, S2, .node (k := .tup) (.inl (.inl upd_same)) (.cons ?_ (.cons (rv.ext ex) .nil))⟩
  rw [Nat.zero_add]
  exact .int _
section
variable {X : Cx} {W : WX} {e : Expr} {as : DA} {p pos tpos : Pos} {elts : List Expr} {kk : Nat}
theorem pi_enumD (hm : X.mg "enumerate" = none) (ha : PAD X W [e] as) (hg : Gl X "enumerate" := by rfl) (hs : starEach [e] X.env = [(false, eval e X.env)] := by rfl) : PID X W (.Tuple elts kk tpos) (.Call (.Name "enumerate" p) [e] [] pos) (iEnumD as) :=
  pi_weak (pi_enum hg hm ha hs) fun σ H R ⟨F, ρ, κ, δ, XD, QD, S, Rr, h, P, PX⟩ => ⟨F, ρ, κ, δ, XD, _, S, Rr, h, fun F1 ρ1 κ1 H1 xs vs e1 S1 R1 h1 => by
    match xs, h1 with
    | [.cell n], ⟨ys, h2, h3⟩ =>
      obtain ⟨v, rfl, rv⟩ := repL1 R1
      obtain ⟨a, ws, rfl, hr, hm2, rl⟩ := cell_at S1 rv h2
      refine ⟨a, ws, rfl, SqL.of hm2, P _ _ _ _ _ _ _ e1 S1 (itOk_e fun F' ρ' κ' H' e' S' hg => ?_) h3⟩
      obtain ⟨p2, vs2, r2, _, hm3, rl2⟩ := S'.live n _ _ hg
      rw [e'.r _ _ hr] at r2
      cases r2
      exact ⟨vs2, SqL.of hm3, rl2⟩
    | [.node .lst ys], h2 =>
      obtain ⟨v, rfl, rv⟩ := repL1 R1
      cases rv with
      | @node _ _ a ws hk rl =>
        exact ⟨a, ws, rfl, SqL.of (S1.sub _ _ hk), P _ _ _ _ _ _ _ e1 S1 (itOk_e fun F' ρ' κ' H' e' S' _ => ⟨ws, SqL.of (S'.sub _ _ (e'.f _ _ hk)), rl.ext e'⟩) h2⟩, PX⟩
end
/-! ### tuple(x), x[::-1] -/
def fTup : D → Kap → DQ → Prop := fun x κ Q => (∃ ys, view x κ = some (.lst, ys) ∧ Q (.node .tup ys) κ) ∨ ∃ ys, x = .node .tup ys ∧ Q (.node .tup ys) κ
def dTupOf (a : DE) : DE := fun δ κ X Q => a δ κ X fun x κ1 => fTup x κ1 Q
def fRev (m : Bool) : D → Kap → DQ → Prop := fun x κ Q => ∃ ys, view x κ = some (.lst, ys) ∧ fNew m .lst ys.reverse κ Q
def dRev (m : Bool) (a : DE) : DE := fun δ κ X Q => a δ κ X fun x κ1 => fRev m x κ1 Q
section
variable {X : Cx} {W : WX} {e : Expr} {a : DE} {p pos p1 p2 p3 : Pos} {k : Nat}
theorem pd_tupOf (hm : X.mg "tuple" = none) (ha : PED X W e a) (hg : Gl X "tuple" := by rfl) (na : starEach [e] X.env = (false, eval e X.env) :: starEach [] X.env := by rfl) : PED X W (.Call (.Name "tuple" p) [e] [] pos) (dTupOf a) :=
  pe_weak (pe_tupleOf hg hm ha na) fun σ H Q ⟨F, ρ, κ, δ, XD, QD, S, R, h, P, PX⟩ => ⟨F, ρ, κ, δ, XD, _, S, R, h, fun F1 ρ1 κ1 H1 x v e1 S1 R1 h0 => by
    rcases h0 with ⟨ys, h1, h3⟩ | ⟨ys, rfl, h3⟩
    · obtain ⟨q, vs, rfl, hk, rl⟩ := view_at S1 R1 h1
      refine .inl ⟨q, vs, rfl, SqL.of hk, fun b hb => ?_⟩
      obtain ⟨ex, S2⟩ := S1.laid (p := b) (o := .tup vs) hb
      exact P _ _ _ _ _ _ (e1.trans ex) S2 (.node (k := .tup) (.inl (.inl upd_same)) (rl.ext ex)) h3
    · cases R1 with
      | @node _ _ q ws hk2 rl2 => exact .inr ⟨q, ws, rfl, sqt_ext S1.sub hk2, P _ _ _ _ _ _ e1 S1 (.node (k := .tup) hk2 rl2) h3⟩, PX⟩
theorem RepL.rev {C : Ctx} {F : Hp} {ρ : Loc0} {xs : List D} {vs : List V} (r : RepL C F ρ xs vs) : RepL C F ρ xs.reverse vs.reverse := RepL.reverse r
theorem pd_rev {kc : Nat} (m : Bool) (ha : PED X W e a) : PED X W (.Subscript e (.Slice none none (some (.UnaryOp .USub (.Constant (.int 1) kc p1) p2)) p3) pos) (dRev m a) :=
  pe_weak (pe_revL ha) fun σ H Q ⟨F, ρ, κ, δ, XD, QD, S, R, h, P, PX⟩ => ⟨F, ρ, κ, δ, XD, _, S, R, h, fun F1 ρ1 κ1 H1 x v e1 S1 R1 ⟨ys, h1, h2⟩ => by
    obtain ⟨q, vs, rfl, hk, rl⟩ := view_at S1 R1 h1
    refine ⟨q, vs, rfl, SqL.of hk, fun b hb => ?_⟩
    cases m with
    | false =>
      obtain ⟨ex, S2⟩ := S1.laid (p := b) (o := .lst vs.reverse) hb
      exact P _ _ _ _ _ _ (e1.trans ex) S2 (.node (k := .lst) upd_same (RepL.reverse (rl.ext ex))) h2
    | true =>
      obtain ⟨n, hn⟩ := S1.fresh
      obtain ⟨ρ2, e2, hr2, S2⟩ := S1.cell (o := .lst vs.reverse) (k := .lst) (vs := vs.reverse) (xs := ys.reverse) hb (fun _ q => q) (RepL.reverse rl) hn
      exact P _ _ _ _ _ _ (e1.trans e2) S2 (.cell hr2) (h2 n hn), PX⟩
end
/-! ### name += number -/
def fAddI : D2 := fun x y κ Q => ∃ i j, x = .int i ∧ y = .int j ∧ Q (.int (i + j)) κ
section
variable {X : Cx} {W : WX} {e : Expr} {a : DE} {x : Str} {pos pos' : Pos} {k : Nat}
theorem sd_augI (i : Nat) (hN : X.N.Nodup) (ha : PED X W e a) (hi : X.N[i]? = some x := by rfl) (hx : L2.Loc X.env.scope x := by first | exact Or.inl rfl | exact Or.inr rfl)
    (hf : X.fn x = true ∨ X.env.scope.names.lookup x = some .local := by first | exact .inl rfl | exact .inr rfl | assumption) : PSD X W (.AugAssign (.Name x pos') .Add e pos) (sAug i fAddI a) :=
  ps_weak (ps_aug hN hi hx ha ip_add hf) fun T σ H ⟨F, ρ, κ, δ, XD, DD, S, R, ⟨d, h0, h⟩, P, PX⟩ => by
    obtain ⟨v, hv, rv⟩ := R.2 i _ h0
    refine ⟨v, hv, F, ρ, κ, δ, XD, _, S, R, h, fun F1 ρ1 κ1 H1 y w e1 S1 R1 ⟨p, q, h1, h2, h3⟩ => ?_, PX⟩
    subst h1 h2
    cases rv
    cases R1
    exact ⟨p, q, rfl, rfl, P.nx _ _ _ _ _ _ e1 S1 ((R.ext e1).set (.int _) i) h3⟩
end
end DL

/-! DLq: defs held by names and by a dict of the top, dict(pairs), d[k], str of a tuple, a try that runs through. -/
namespace DL
open PySem PySem.Spec PyProof.Rows L2
/-! ### a dict of the top whose values are defs -/
def TabK (K : PySem.W.Frag) (w : World) (mg : Str → Option Value) (x : Str) (tab : List (Str × Str)) : Prop := ∃ p, mg x = some (.ref p) ∧ ∀ q ∈ tab, ∃ f, mg q.2 = some (.ref f) ∧ KDct K w p q.1 (.ref f)
def dTab (tab : List (Str × Str)) (a : DE) : DE := fun δ κ X Q => a δ κ X fun x κ1 => ∃ z g, x = .str z ∧ (z, g) ∈ tab ∧ Q (.glb g) κ1
section
variable {X : Cx} {W : WX} {x : Str} {e : Expr} {a : DE} {p pos : Pos} {tab : List (Str × Str)}
theorem pd_tab (T : TabK X.K X.w X.mg x tab) (ha : PED X W e a) (hg : Gl X x := by rfl) (hdb : (x == ("__debug__" : Str)) = false := by decide) (hs : PlainIx e := by exact fun _ _ => rfl) : PED X W (.Subscript (.Name x p) e pos) (dTab tab a) := by
  obtain ⟨ad, hm, ht⟩ := T
  refine pe_weak (pe_ix ix_kdict (pe_glob (v := .ref ad) hg hm rfl hdb) ha hs) fun σ H Q ⟨F, ρ, κ, δ, XD, QD, S, R, h, P, PX⟩ => ?_
  refine ⟨F, ρ, κ, δ, XD, _, S, R, h, fun F1 ρ1 κ1 H1 x1 v e1 S1 R1 ⟨z, g, h1, h2, h3⟩ => ?_, PX⟩
  subst h1
  cases R1
  obtain ⟨f, hf, kd⟩ := ht _ h2
  exact ⟨ad, z, _, rfl, rfl, kd, P _ _ _ _ _ _ e1 S1 (.glb hf) h3⟩
end
end DL
namespace DL
open PySem PySem.Spec PyProof.Rows L2
/-! ### a def that a name holds, called -/
def dCallV (i : Nat) (tab : List (Str × DSp)) (as : DA) : DE := fun δ κ X Q => ∃ g sp, δ[i]? = some (some (.glb g)) ∧ (g, sp) ∈ tab ∧ as δ κ X fun xs κ1 => sp xs κ1 (X δ) Q
def OkV (P : Program) (w : World) (K : PySem.W.Frag) (mg : Str → Option Value) (base : Heap) (k : Nat) (tab : List (Str × DSp)) : Prop := ∀ q ∈ tab, ∃ ps, Ok P w K mg base k q.1 ps q.2
section
variable {X : Cx} {W : WX} {k i : Nat} {x : Str} {e : Expr} {es : List Expr} {as : DA} {p pos : Pos} {tab : List (Str × DSp)}
theorem pd_callV (i : Nat) (G : Good k X W) (T : OkV X.prog X.w X.K X.mg X.base k tab) (ha : PAD X W (e :: es) as) (hN : X.N[i]? = some x := by rfl) (hv : Vis X.env.scope x := by first | exact Or.inl rfl | exact Or.inr (Or.inl rfl) | exact Or.inr (Or.inr rfl))
    (hdb : (x == ("__debug__" : Str)) = false := by decide) (hcd : (x == ("__classdict__" : Str)) = false := by decide)
    (he : starEach (e :: es) X.env = (false, eval e X.env) :: starEach es X.env := by rfl) (hpl : (backTo pos (starEach es X.env)).any (·.1) = false := by rfl) : PED X W (.Call (.Name x p) (e :: es) [] pos) (dCallV i tab as) := by
  refine ⟨fun pins s σ H Q I ⟨F, ρ, κ, δ, XD, QD, S, R, ⟨g, sp, h1, h2, h⟩, P, PX⟩ => ?_⟩
  obtain ⟨ps, f, fd, o⟩ := T _ h2
  obtain ⟨v, hs, rv⟩ := R.2 i _ h1
  cases rv with
  | @glb _ a hm =>
    obtain rfl : a = f := by
      have := hm.symm.trans o.m
      injection this with this
      injection this
    refine wpAny_Call_Name_kw (thn ((pe_var (pos := p) hN hv hdb hcd).run pins s σ H (fun v H1 => v = .ref a ∧ H1 = H) I ⟨.ref a, hs, rfl, rfl⟩) fun u s1 ⟨v, H1, I1, r1, q1⟩ => ?_)
    obtain ⟨rfl, rfl⟩ := q1
    cases r1
    refine PySem.W.callWith_K (h₀ := X.base) I.ok.mod.kin o.kp (thn (ha.run pos pins s1 σ H1 (fun vs H2 => ∃ F1 ρ1 κ1 xs, Ext F ρ F1 ρ1 ∧ StR (CtxOf X) F1 ρ1 κ1 H2 ∧ RepL (CtxOf X) F1 ρ1 xs vs ∧ sp xs κ1 (XD δ) QD) I1
      ⟨F, ρ, κ, δ, XD, _, S, R, h, fun F1 ρ1 κ1 H1 xs vs e1 S1 R1 h1 => ⟨F1, ρ1, κ1, xs, e1, S1, R1, h1⟩, PX⟩) fun us s2 ⟨vs, H2, I2, r1, F2, ρ1, κ1, xs, e1, S1, R1, h1⟩ => ⟨I2.kIn, ?_⟩) he hpl
    have hl : us.length = ps.length := by
      rw [← o.fn.len _ _ _ _ h1, R1.length, Paired.length r1]
    have hb := o.bd s2 us I2.kIn (by rw [List.append_nil]; exact hl)
    rw [List.append_nil] at hb
    exact run_fnG G o.fn (args := ⟨us, []⟩) I2 hb r1 S1 (R.ext e1) R1 h1 (P.ext e1) (PX.ext e1)
end
/-! ### a try that runs through -/
def sThru (b : DS) : DS := fun δ κ _ T => b δ κ (fun _ _ _ _ => False) T
def W0 : WX := fun _ _ _ _ => False
theorem Good.nox {k : Nat} {X : Cx} {W : WX} (g : Good k X W) : Good k X.nox W0 := ⟨fun _ _ x => by
  obtain ⟨_, _, _, _, _, _, _, _, _, _, _, _, _, _, _, _, z⟩ := x
  exact z.elim, PassesOwn.never, g.rm, g.gd, g.sm, g.calm, g.nd⟩
theorem sd_thru {X : Cx} {W : WX} {body : List Stmt} {h0 : ExceptHandler} {hs : List ExceptHandler} {b : DS} {pos : Pos} (hb : PSsD X.nox W0 body b) : PSD X W (.Try body (h0 :: hs) [] [] pos) (sThru b) :=
  ps_weak (ps_try_thru0 hb) fun T σ H ⟨F, ρ, κ, δ, XD, DD, S, R, h, P, PX⟩ => ⟨F, ρ, κ, δ, _, DD, S, R, h, P, fun _ _ _ _ _ _ _ _ _ _ _ _ _ _ z => z.elim⟩
end DL
namespace DL
open PySem PySem.Spec PyProof.Rows L2
/-! ### str of a number, of a tuple -/
def fStrR : DN := fun xs κ Q => match xs with
  | [.int i] => i.natAbs.log2 < 1920 ∧ Q (.str (toString i)) κ
  | [.node .tup ys] => ∃ p, Pd κ (.node .tup ys) p ∧ p.showable = true ∧ p.depth ≤ 60 ∧ p.shown.length ≤ sizeLine ∧ Q (.str p.shown) κ
  | _ => False
def rStrT (C : Ctx) : List V → Hp → VK → Prop := fun vs H Q => ∃ F ρ κ ys v p, vs = [v] ∧ StR C F ρ κ H ∧ Rep C F ρ (.node .tup ys) v ∧ Pd κ (.node .tup ys) p ∧ p.showable = true ∧ p.depth ≤ 60 ∧ p.shown.length ≤ sizeLine ∧ Q (.str p.shown) H
theorem sim_strR {C : Ctx} : SimN C fStrR (fun xs H Q => (∃ i, xs = [.int i] ∧ i.natAbs.log2 < 1920 ∧ Q (.str (toString i)) H) ∨ rStrT C xs H Q) := by
  intro F ρ κ H xs vs QD Q S r h P
  match xs, h with
  | [.int i], h =>
    obtain ⟨v, rfl, rx⟩ := repL1 r
    cases rx
    exact .inl ⟨i, rfl, h.1, P _ _ _ _ _ _ (Ext.refl _ _) S (.str _) h.2⟩
  | [.node .tup ys], ⟨p, h1, h2, h3, h4, h5⟩ =>
    obtain ⟨v, rfl, rx⟩ := repL1 r
    exact .inr ⟨F, ρ, κ, ys, v, p, rfl, S, rx, h1, h2, h3, h4, P _ _ _ _ _ _ (Ext.refl _ _) S (.str _) h5⟩
section
variable {X : Cx} {W : WX} {k : Nat} {e : Expr} {es : List Expr} {a b : DE} {as : DA} {pos p : Pos}
theorem call_strT (g : Good k X W) : CallR X (.type "str") (rStrT (CtxOf X)) := by
  intro pins s σ H xs us Q I r ⟨F, ρ, κ, ys, v, p, e, S, rx, h1, h2, h3, h4, h5⟩
  subst e
  obtain ⟨u, rfl, rv⟩ := vals1 r
  have hu : X.A.units + (p.depth + 3) < cLine := by have := g.rm.units; omega
  obtain ⟨as, hr, hn⟩ := Pd.reads I (Inv.sysm I g.sm) S h1 rx rv
  cases h1 with
  | lst h t => cases h
  | dct h t => cases h
  | tup h t =>
    cases hr with
    | tuple q1 q2 q3 q4 => exact str_of_reads (.tuple q1 q2 q3 q4) h2 (fun _ => hn) g.gd hu (fun _ _ e => e) (fun h' u tk hk => ⟨.str _, H, I.kept hk, ⟨_, rfl⟩, h5⟩) h4
end
/-! ### dict(pairs) -/
def pairD (p : Key × D) : D := .node .tup [keyD p.1, p.2]
def fDictOf : DN := fun xs κ Q => match xs with
  | [x] => ∃ (ks : List Key) (ds : List D), ks.length = ds.length ∧ ks.Nodup ∧ view x κ = some (.lst, (ks.zip ds).map pairD) ∧ Q (.node (.dct ks) ds) κ
  | _ => False
theorem pairs_rep {C : Ctx} {F : Hp} {ρ : Loc0} {κ : Kap} {H : Hp} (S : StR C F ρ κ H) : ∀ {ks : List Key} {ds : List D} {vs : List V}, ks.length = ds.length → RepL C F ρ ((ks.zip ds).map pairD) vs →
    ∃ (ps : List Addr) (ws : List V), vs = ps.map V.ref ∧ RepL C F ρ ds ws ∧ ws.length = ks.length ∧ Paired (fun p kv => SqT C.K H p [kV kv.1, kv.2]) ps (ks.zip ws)
  | [], [], _, _, .nil => ⟨[], [], rfl, .nil, rfl, .nil⟩
  | k :: ks, d :: ds, _, hl, .cons h t => by
    obtain ⟨ps, ws, h1, h2, h3, h4⟩ := pairs_rep S (ks := ks) (ds := ds) (Nat.succ.inj hl) t
    subst h1
    have key : ∀ {v : V}, Rep C F ρ (keyD k) v → v = kV k := fun {v} r => by
      cases k with
      | inl i => cases r; rfl
      | inr x => cases r; rfl
    unfold pairD at h
    cases h with
    | node hk rr =>
      cases rr with
      | cons r1 rr =>
        cases rr with
        | cons r2 rr =>
          cases rr
          obtain rfl := key r1
          exact ⟨_ :: ps, _ :: ws, rfl, .cons r2 h2, by rw [List.length_cons, List.length_cons, h3], .cons (sqt_ext S.sub hk) h4⟩
theorem sim_dictOf {C : Ctx} : SimN C fDictOf (fun xs H Q => ∃ (a : Addr) (ps : List Addr) (kvs : List (Key × V)), xs = [.ref a] ∧ SqL C.K H a (ps.map V.ref) ∧ Paired (fun p kv => SqT C.K H p [kV kv.1, kv.2]) ps kvs ∧
    ∀ p, H p = none → Q (.ref p) (upd H p (.dK (mergeK [] kvs)))) := by
  intro F ρ κ H xs vs QD Q S r h P
  match xs, h with
  | [x], ⟨ks, ds, hl, hn, hv, hq⟩ =>
    obtain ⟨v, rfl, rx⟩ := repL1 r
    obtain ⟨a, us, rfl, hk, rl⟩ := view_at S rx hv
    obtain ⟨ps, ws, h1, h2, h3, h4⟩ := pairs_rep S hl rl
    subst h1
    have m1 : (ks.zip ws).map (·.1) = ks := List.map_fst_zip (by rw [h3]; exact Nat.le_refl _)
    have m2 : (ks.zip ws).map (·.2) = ws := List.map_snd_zip (by rw [h3]; exact Nat.le_refl _)
    refine ⟨a, ps, ks.zip ws, rfl, SqL.of hk, h4, fun p hp => ?_⟩
    have em : mergeK [] (ks.zip ws) = ks.zip ws := by rw [merge_nodup (by rw [m1]; exact hn)]; rfl
    rw [em]
    obtain ⟨ex, S2⟩ := S.laid (p := p) (o := .dK (ks.zip ws)) hp
    exact P _ _ _ _ _ _ ex S2 (.node (k := .dct ks) ⟨_, upd_same, m1, m2⟩ (h2.ext ex)) hq
/-! ### d[k] of such a dict -/
def fDk : D2 := fun x y κ Q => ∃ ks ds k d, view x κ = some (.dct ks, ds) ∧ keyO y = some k ∧ ((ks.zip ds).find? fun p => decide (p.1 = k)) = some (k, d) ∧ Q d κ
theorem find_rep {C : Ctx} {F : Hp} {ρ : Loc0} {k : Key} {d : D} : ∀ {ks : List Key} {ds : List D} {kvs : List (Key × V)}, kvs.map (·.1) = ks → RepL C F ρ ds (kvs.map (·.2)) → ((ks.zip ds).find? fun p => decide (p.1 = k)) = some (k, d) → ∃ v, valV kvs k = some v ∧ Rep C F ρ d v
  | _, _, [], h1, _, h3 => by
    subst h1
    cases h3
  | _, [], kv :: kvs, h1, h2, _ => by cases h2
  | _, d0 :: ds, kv :: kvs, h1, h2, h3 => by
    subst h1
    cases h2 with
    | cons r rr =>
      rw [List.map_cons, List.zip_cons_cons, List.find?_cons] at h3
      by_cases e : kv.1 = k
      · rw [decide_eq_true (by exact e)] at h3
        have := congrArg Prod.snd (Option.some.inj h3)
        subst this
        exact ⟨kv.2, by unfold valV; rw [List.find?_cons, decide_eq_true e]; rfl, r⟩
      · rw [decide_eq_false (by exact e)] at h3
        obtain ⟨v, h4, h5⟩ := find_rep rfl rr h3
        exact ⟨v, by unfold valV at h4 ⊢; rw [List.find?_cons, decide_eq_false e]; exact h4, h5⟩
section
variable {X : Cx} {W : WX} {k : Nat} {e1 e2 : Expr} {a b : DE} {pos : Pos}
theorem pd_dk (G : Good k X W) (ha : PED X W e1 a) (hb : PED X W e2 b) (hs : NoSl e2 := by exact fun _ _ => rfl) : PED X W (.Subscript e1 e2 pos) (dOp fDk a b) :=
  pe_weak (pe_dget (by have := G.rm.units; omega) ha hb hs) fun σ H Q ⟨F, ρ, κ, δ, XD, QD, S, R, h, P, PX⟩ => ⟨F, ρ, κ, δ, XD, _, S, R, h, fun F1 ρ1 κ1 H1 x v e1 S1 R1 h1 => ⟨F1, ρ1, κ1, δ, XD, _, S1, R.ext e1, h1, fun F2 ρ2 κ2 H2 y u e2 S2 R2 ⟨ks, ds, k, d, h2, h3, h4, h5⟩ => by
    obtain ⟨q, vs, rfl, ⟨kvs, hk, hk1, hk2⟩, rl⟩ := view_at S2 (R1.ext e2) h2
    subst hk2
    have := keyO_rep R2 h3
    subst this
    obtain ⟨w, g1, g2⟩ := find_rep hk1 rl h4
    refine ⟨q, w, rfl, ?_, P _ _ _ _ _ _ (e1.trans e2) S2 g2 h5⟩
    rw [← g1]
    exact DGet.k hk, PX.ext e1⟩, PX⟩
end
end DL
namespace DL
open PySem PySem.Spec PyProof.Rows L2
theorem tabK_of {K : PySem.W.Frag} {w : World} {mg : Str → Option Value} {x : Str} {tab : List (Str × Str)} {p : Addr} {ks : List Str} (hm : mg x = some (.ref p)) (hd : He.dicW K p = some (He.keysIn w.params ks))
    (h : ∀ q ∈ tab, ∃ f, mg q.2 = some (.ref f) ∧ PySem.W.nsIn K p q.1 = some (some (.ref f))) : TabK K w mg x tab := by
  obtain ⟨es, n, kd⟩ := He.dicW_ok hd
  refine ⟨p, hm, fun q hq => ?_⟩
  obtain ⟨f, h1, h2⟩ := h q hq
  exact ⟨f, h1, es, n, .ref f, kd.at_, kd.lit, h2, rfl⟩
end DL

/-! DLr: within an except suite: two names at once. -/
namespace DL
open PySem PySem.Spec PyProof.Rows L2 HotX
section
variable {prog : Program} {w : World} {A : Around} {E : Value → Shared → Prop} {s : Shared}
theorem tup_end_hot {it t x1 : Addr} {i : Nat} {items : Array Value} {Q : Option Value → Shared → Prop} (hot : HotAt A x1 s.heap) (ne : x1 ≠ it) (iter : IsTupIter s.heap it t i) (tup : IsTup s.heap t items) (over : items[i]? = none)
    (want : ∀ h', Heap.ExtBut it s.heap h' → Q none { s with heap := h' }) : wpAny (model prog w) A (pyNext (.ref it)) Q E s := by
  obtain ⟨ob, atI, clsI, datI⟩ := id iter
  obtain ⟨obT, atT, _, mT, datT⟩ := tup
  obtain ⟨marked, o1, vs1, at1, dat1, ctx1⟩ := hot
  unfold pyNext
  refine wpAny_bind (wpAny_attempt
    (wpAny_callSpecial?_slot (name := Str.ofString "__next__") iter.typeIs slot_tupleiter_next (wpAny_call_entry slot_tupleiter_next iter.typeIs entry_tupleiter_next ?_ (args_tupleiter_next _))))
  show wpAny _ _ (field (.ref it) 0 >>= _) _ _ s
  refine wpAny_bind (wpAny_field atI datI (x := .ref t) rfl ?_)
  show wpAny _ _ (ite ((Value.ref t == Value.none) = true) _ _) _ _ s
  rw [if_neg (show ¬ ((Value.ref t == Value.none) = true) from Bool.false_ne_true)]
  show wpAny _ _ (field (.ref it) 1 >>= _) _ _ s
  refine wpAny_bind (wpAny_field atI datI (x := .int i 0) rfl ?_)
  show wpAny _ _ (seqItems? (.ref t) >>= _) _ _ s
  refine wpAny_bind (wpAny_seqItems atT datT ?_)
  simp only [Int.toNat_natCast, over]
  refine wpAny_bind (wpAny_rule (wpAny_bind (wpAny_setField atI datI (by simp) ?_)))
  have at2 := (Heap.SameBut.update (h := s.heap) (a := it) (f := Obj.mapFields (·.setIfInBounds 0 .none))).extBut
  show wpAny _ _ (newExc (.type "StopIteration") [] >>= _) _ _ _
  refine wpAny_bind ?_
  simp only [newExc, newTuple]
  refine wpAny_bind (wpAny_newObj_type ?_ (by size_fits))
  refine wpAny_bind (m := firstArgMember _ _)
    (wpAny_of_eq (a := Value.none) (by first | rfl | (simp only [firstArgMember]; rfl)) ?_)
  refine wpAny_newObj_type ?_ (by size_fits)
  have kept := Heap.get?_push_of_some { cls := .type "tuple", data := .seq #[] } (at2 x1 o1 ne at1)
  refine raiseNew_hot ⟨marked, o1, vs1, Heap.get?_push_of_some _ kept, dat1, ctx1⟩
    (Nat.ne_of_lt (Heap.lt_size kept)) (Heap.get?_push_size _ rfl) rfl (by first | (simp; done) | (simp; omega) | (simp only [Array.size_append]; simp; omega)) ?_
  refine wpAny_bind
    (wpAny_isInstance (T := "StopIteration") (b := true) ⟨_, Heap.get?_update_self _ (Heap.get?_push_size _ rfl) rfl, rfl⟩ isSubtype_stop ?_)
  refine wpAny_pure (want _ fun b o nb e => ?_)
  have e2 := Heap.get?_push_of_some { cls := .type "tuple", data := .seq #[] } (at2 b o nb e)
  rw [Heap.get?_update_other _ _ (Nat.ne_of_gt (Heap.lt_size e2))]
  exact Heap.get?_push_of_some _ e2
theorem unpack_hot {t x1 : Addr} {items : Array Value} {Q : List Value → Shared → Prop} (hot : HotAt A x1 s.heap) (tup : IsTup s.heap t items)
    (want : ∀ h', Heap.ExtBut s.heap.objs.size s.heap h' → Q items.toList { s with heap := h' }) : wpAny (model prog w) A (unpackItems (.ref t) items.size none) Q E s := by
  have below : t ≠ s.heap.objs.size := by
    obtain ⟨_, z, _⟩ := tup
    exact Nat.ne_of_lt (Heap.lt_size z)
  unfold unpackItems
  refine wpAny_bind ?_
  unfold notIterableAtAll
  refine wpAny_bind (wpAny_specialOf tup.typeIs slot_tuple_iter.lookup (wpAny_pure ?_))
  simp only [Bool.false_eq_true, if_false]
  refine wpAny_bind (wpAny_holding (iter_tuple tup (wpAny_bind (wpAny_holding
    (draw_tuple below items.size 0 _ _ ⟨_, Heap.get?_push_size _ rfl, rfl, rfl⟩ (tup.push _) (by omega) fun h1 iter1 same1 => ?_)))))
  have whole : List.take items.size (List.drop 0 items.toList) = items.toList := List.take_of_length_le (by simp)
  rw [whole, if_neg (by simp)]
  have tup1 : IsTup h1 t items := (tup.push _).extBut same1.extBut below
  obtain ⟨marked, o1, vs1, at1, dat1, ctx1⟩ := hot
  have ne1 : x1 ≠ s.heap.objs.size := Nat.ne_of_lt (Heap.lt_size at1)
  refine wpAny_bind (wpAny_holding
    (tup_end_hot (x1 := x1) ⟨marked, o1, vs1, same1.extBut x1 o1 ne1 (Heap.get?_push_of_some _ at1), dat1, ctx1⟩ ne1 iter1 tup1 (by simp) fun h2 e2 => ?_))
  simp only [Option.isSome_none, Bool.false_eq_true, if_false]
  exact wpAny_pure (want h2 fun b o nb e => e2 b o nb (same1.extBut b o nb (Heap.get?_push_of_some _ e)))
end
theorem Caught.hot {X : Cx} {a C : Addr} {dd : Option Addr} {oe : Obj} (Z : Caught X a C dd oe) (pn : List (Addr × Obj)) : L2H.HotC (X.suite a ((a, oe) :: pn)) := by
  obtain ⟨vs, e⟩ := Z.f
  exact ⟨(a, oe), ⟨rfl, vs, e, Z.z.2.2 vs e⟩, List.mem_cons_self⟩
theorem ps_parH {X : Cx} {i j : Nat} {x y : Str} {a b : Expr} {ta : TA} {px py pt pos : Pos} {kt k2 pt2} (hot : L2H.HotC X) (nd : X.N.Nodup) (hi : X.N[i]? = some x) (hj : X.N[j]? = some y) (hij : i ≠ j)
    (hx : X.env.scope.names.lookup x = some .local) (hy : X.env.scope.names.lookup y = some .local) (ha : PA X [a, b] ta)
    (hw : swappedStores [.Tuple [.Name x px, .Name y py] kt pt] (.Tuple [a, b] k2 pt2) X.env = pure (some [x, y]))
    (hs : swapsWithSole [.Tuple [.Name x px, .Name y py] kt pt] (.Tuple [a, b] k2 pt2) pos.line X.env = pure false := by rfl) :
    PS X (.Assign [.Tuple [.Name x px, .Name y py] kt pt] (.Tuple [a, b] k2 pt2) pos) (tPar i j ta) := by
  refine ⟨fun pins s σ H D I todo => ?_⟩
  rw [exec_Assign_arm]
  refine wpAny_bind (wpAny_standAt ?_)
  rw [hs]
  refine wpAny_bind (wpAny_pure ?_)
  rw [if_neg (by decide)]
  refine wpAny_bind (Tuple_ (thn (ha.run _ pins s σ H _ I todo) ?_))
  rintro us s1 ⟨_, H1, I1, rel, v, w, rfl, q1⟩
  have two : ∃ u1 u2, us = [u1, u2] ∧ RelV v u1 ∧ RelV w u2 := by
    cases rel with
    | cons r1 rel =>
      cases rel with
      | cons r2 rel =>
        cases rel
        exact ⟨_, _, rfl, r1, r2⟩
  obtain ⟨u1, u2, rfl, rv, rw'⟩ := two
  refine wpAny_newObj_type ?_ (by show 2 ≤ sizeLine; decide)
  have I2 : L2.Inv X pins σ H1 { s1 with heap := s1.heap.push { cls := .type "tuple", data := .seq [u1, u2].toArray } } :=
    I1.kept (t' := s1.toks) fun b o e => Heap.get?_push_of_some _ e
  obtain ⟨x1, hot2⟩ := hot.at I2
  rw [hw]
  refine wpAny_bind (wpAny_pure ?_)
  show wpAny (model X.prog X.w) X.A (do
    rule "assign.swapped-stores"
    let items ← unpackItems (.ref s1.heap.objs.size) 2 none
    assignInOrder [fun v => bindName X.env y v, fun v => bindName X.env x v] items.reverse
    pure Flow.next) _ _ _
  refine wpAny_bind (wpAny_rule (wpAny_bind
    (unpack_hot (items := #[u1, u2]) hot2 (IsTup.new s1.heap _) fun h' ext => ?_)))
  have I3 := I2.kept (h' := h') (t' := s1.toks) fun b o e => ext b o (Nat.ne_of_lt (Heap.lt_size e)) e
  show wpAny _ _ (assignInOrder [fun v => bindName X.env y v, fun v => bindName X.env x v] [u2, u1] >>= fun _ => pure Flow.next) _ _ _
  refine wpAny_bind (assignInOrder_cons (wpAny_bindName
    (store_ok I3 nd hj (.inl hy) rw' (fun s2 I4 => ?_) (.inr hy))))
  refine assignInOrder_cons (wpAny_bindName
    (store_ok I4 nd hi (.inl hx) rv (fun s3 I5 => assignInOrder_nil (wpAny_pure ?_)) (.inr hx)))
  rw [List.set_comm _ _ (Ne.symm hij)] at I5
  exact ⟨_, H1, I5, q1⟩
/-! ### the greatest of three -/
def mx3 (i j l : Int) : Int := if j > i then (if l > j then l else j) else (if l > i then l else i)
def fMax3 : DN := fun xs κ Q => match xs with
  | [.int i, .int j, .int l] => Q (.int (mx3 i j l)) κ
  | _ => False
theorem sim_max3 {C : Ctx} : SimN C fMax3 (fun xs H Q => ∃ i j l, xs = [.int i, .int j, .int l] ∧ Q (.int (mx3 i j l)) H) := by
  intro F ρ κ H xs vs QD Q S r h P
  match xs, h with
  | [.int i, .int j, .int l], h =>
    cases r with
    | cons r1 r =>
      obtain ⟨v, u, rfl, r2, r3⟩ := repL2 r
      cases r1
      cases r2
      cases r3
      exact ⟨i, j, l, rfl, P _ _ _ _ _ _ (Ext.refl _ _) S (.int _) h⟩
theorem call_max3 {X : Cx} (calm : X.calm = true) : CallR X (.builtin "max") (fun xs H Q => ∃ i j l, xs = [.int i, .int j, .int l] ∧ Q (.int (mx3 i j l)) H) := by
  rintro pins s σ H _ us Q I r ⟨i, j, l, rfl, q⟩
  cases r with
  | cons r1 r =>
    obtain ⟨u2, u3, rfl, ⟨t2, rfl⟩, ⟨t3, rfl⟩⟩ := vals2 r
    obtain ⟨t1, rfl⟩ := r1
    refine max_three_ints (I.ok.hd calm) fun h' tk k => ⟨_, H, I.kept k, ?_, q⟩
    unfold mx3
    by_cases h1 : j > i
    · rw [if_pos h1, if_pos h1]
      by_cases h2 : l > j
      · rw [if_pos h2, if_pos h2]
        exact ⟨_, rfl⟩
      · rw [if_neg h2, if_neg h2]
        exact ⟨_, rfl⟩
    · rw [if_neg h1, if_neg h1]
      by_cases h2 : l > i
      · rw [if_pos h2, if_pos h2]
        exact ⟨_, rfl⟩
      · rw [if_neg h2, if_neg h2]
        exact ⟨_, rfl⟩
end DL

/-! DLs: texts: f-strings, split, startswith, find, lstrip, int of a text, a text many times. -/
namespace DL
open PySem PySem.Spec PyProof.Rows L2
/-! ### methods -/
def fSS (g : Str → Str → D) : D2 := fun x y κ Q => match x, y with
  | .str a, .str b => Q (g a b) κ
  | _, _ => False
def fStw : D2 := fSS fun a b => .bl (Txt.startswith a b)
def fFnd : D2 := fSS fun a b => .int (Txt.find a b)
def fLst : D2 := fun x y κ Q => match x, y with
  | .str a, .str b => a.length ≤ sizeLine ∧ Q (.str (Txt.lstripChars a b)) κ
  | _, _ => False
def fSpl : D2 := fun x y κ Q => match x, y with
  | .str a, .str b => ((b.length == 0) = false ∧ a.length + 2 ≤ sizeLine) ∧ Q (.node .lst ((Txt.split a b).map D.str)) κ
  | _, _ => False
theorem strs_rep {C : Ctx} {F : Hp} {ρ : Loc0} : ∀ ys : List Str, RepL C F ρ (ys.map D.str) (ys.map V.str)
  | [] => .nil
  | y :: ys => .cons (.str y) (strs_rep ys)
theorem sim_stw {C : Ctx} : Sim2 C fStw (fun x y H Q => ∃ a b, x = .str a ∧ [y] = [.str b] ∧ Q (.bl (Txt.startswith a b)) H) := by
  intro F ρ κ H x y v u QD Q S rx ry h P
  cases x <;> first | exact h.elim | skip
  cases y <;> first | exact h.elim | skip
  cases rx
  cases ry
  exact ⟨_, _, rfl, rfl, P _ _ _ _ _ _ (Ext.refl _ _) S (.bl _) h⟩
theorem sim_fnd {C : Ctx} : Sim2 C fFnd (fun x y H Q => ∃ a b, x = .str a ∧ [y] = [.str b] ∧ Q (.int (Txt.find a b)) H) := by
  intro F ρ κ H x y v u QD Q S rx ry h P
  cases x <;> first | exact h.elim | skip
  cases y <;> first | exact h.elim | skip
  cases rx
  cases ry
  exact ⟨_, _, rfl, rfl, P _ _ _ _ _ _ (Ext.refl _ _) S (.int _) h⟩
theorem sim_lst {C : Ctx} : Sim2 C fLst (fun x y H Q => ∃ a b, x = .str a ∧ [y] = [.str b] ∧ a.length ≤ sizeLine ∧ Q (.str (Txt.lstripChars a b)) H) := by
  intro F ρ κ H x y v u QD Q S rx ry h P
  cases x <;> first | exact h.elim | skip
  cases y <;> first | exact h.elim | skip
  cases rx
  cases ry
  exact ⟨_, _, rfl, rfl, h.1, P _ _ _ _ _ _ (Ext.refl _ _) S (.str _) h.2⟩
theorem sim_spl {C : Ctx} : Sim2 C fSpl (fun x y H Q => ∃ a b, x = .str a ∧ [y] = [.str b] ∧ (b.length == 0) = false ∧ a.length + 2 ≤ sizeLine ∧ rNewStrs (Txt.split a b) H Q) := by
  intro F ρ κ H x y v u QD Q S rx ry h P
  cases x <;> first | exact h.elim | skip
  cases y <;> first | exact h.elim | skip
  cases rx
  cases ry
  refine ⟨_, _, rfl, rfl, h.1.1, h.1.2, fun p hp => ?_⟩
  obtain ⟨ex, S2⟩ := S.laid (p := p) (o := .lst ((Txt.split _ _).map V.str)) hp
  exact P _ _ _ _ _ _ ex S2 (.node (k := .lst) upd_same (strs_rep _)) h.2
section
variable {X : Cx} {W : WX} {e1 e2 : Expr} {a b : DE} {apos pos : Pos}
theorem pd_stw (ho : PED X W e1 a) (he : PED X W e2 b) (hs : starEach [e2] X.env = [(false, eval e2 X.env)] := by rfl) (hbase : attributeBase e1 "startswith" X.env (eval e1 X.env) = eval e1 X.env := by rfl) (hline : (apos.endLine == pos.line) = true := by rfl) :
    PED X W (.Call (.Attribute e1 "startswith" apos) [e2] [] pos) (dM1 fStw a b) := pe_weak (pe_m1 F.slot_str_startswith F.type_str_startswith mt_startswith ho he hs hbase hline) fun _ _ _ => lift_m1 sim_stw
theorem pd_fnd (ho : PED X W e1 a) (he : PED X W e2 b) (hs : starEach [e2] X.env = [(false, eval e2 X.env)] := by rfl) (hbase : attributeBase e1 "find" X.env (eval e1 X.env) = eval e1 X.env := by rfl) (hline : (apos.endLine == pos.line) = true := by rfl) :
    PED X W (.Call (.Attribute e1 "find" apos) [e2] [] pos) (dM1 fFnd a b) := pe_weak (pe_m1 F.slot_str_find F.type_str_find mt_find ho he hs hbase hline) fun _ _ _ => lift_m1 sim_fnd
theorem pd_lst1 (ho : PED X W e1 a) (he : PED X W e2 b) (hs : starEach [e2] X.env = [(false, eval e2 X.env)] := by rfl) (hbase : attributeBase e1 "lstrip" X.env (eval e1 X.env) = eval e1 X.env := by rfl) (hline : (apos.endLine == pos.line) = true := by rfl) :
    PED X W (.Call (.Attribute e1 "lstrip" apos) [e2] [] pos) (dM1 fLst a b) := pe_weak (pe_m1 F.slot_str_lstrip F.type_str_lstrip mt_lstripChars ho he hs hbase hline) fun _ _ _ => lift_m1 sim_lst
theorem pd_spl (ho : PED X W e1 a) (he : PED X W e2 b) (hs : starEach [e2] X.env = [(false, eval e2 X.env)] := by rfl) (hbase : attributeBase e1 "split" X.env (eval e1 X.env) = eval e1 X.env := by rfl) (hline : (apos.endLine == pos.line) = true := by rfl) :
    PED X W (.Call (.Attribute e1 "split" apos) [e2] [] pos) (dM1 fSpl a b) := pe_weak (pe_split ho he hs hbase hline) fun _ _ _ => lift_m1 sim_spl
end
/-! ### f-strings -/
def fFmt (x : D) (κ : Kap) (Q : DQ) : Prop := match x with
  | .str y => y.length ≤ sizeLine ∧ Q (.str y) κ
  | .int i => i.natAbs.log2 < 1920 ∧ Q (.str (toString i)) κ
  | _ => False
def dFmt (a : DE) : DE := fun δ κ X Q => a δ κ X fun x κ1 => fFmt x κ1 Q
def dJs : List DE → Str → DEnv → Kap → DX → (Str → Kap → Prop) → Prop
  | [], acc, _, κ, _, Q => Q acc κ
  | a :: as, acc, δ, κ, X, Q => a δ κ X fun x κ1 => ∃ y : Str, x = .str y ∧ (acc ++ y).length ≤ sizeLine ∧ dJs as (acc ++ y) δ κ1 X Q
def dJoined (as : List DE) : DE := fun δ κ X Q => dJs as Str.empty δ κ X fun out κ1 => Q (.str out) κ1
section
variable {X : Cx} {W : WX} {e v1 v2 : Expr} {es rest : List Expr} {a : DE} {as : List DE} {pos : Pos}
theorem pd_fmt (ha : PED X W e a) : PED X W (.FormattedValue e (-1) none pos) (dFmt a) := pe_weak (pe_fmt ha) fun σ H Q ⟨F, ρ, κ, δ, XD, QD, S, R, h, P, PX⟩ =>
  ⟨F, ρ, κ, δ, XD, _, S, R, h, fun F1 ρ1 κ1 H1 x v e1 S1 R1 h1 => by
    cases x <;> first | exact h1.elim | skip
    · cases R1
      exact .inr ⟨_, rfl, h1.1, P _ _ _ _ _ _ e1 S1 (.str _) h1.2⟩
    · cases R1
      exact .inl ⟨_, rfl, h1.1, P _ _ _ _ _ _ e1 S1 (.str _) h1.2⟩, PX⟩
abbrev PJD (X : Cx) (W : WX) (es : List Expr) (as : List DE) : Prop := PJ X es (as.map fun a => liftE (CtxOf X) W a)
theorem pj_nilD : PJD X W [] [] := .nil
theorem pj_consD (ha : PED X W e a) (hr : PJD X W es as) : PJD X W (e :: es) (a :: as) := .cons ha hr
theorem lift_js {C : Ctx} : ∀ {as : List DE} {acc : Str} {F : Hp} {ρ : Loc0} {κ : Kap} {δ : DEnv} {XD : DX} {QD : Str → Kap → Prop} {σ : L2.St} {H : Hp} {Q : Str → Hp → Prop}, StR C F ρ κ H → RepS C F ρ δ σ → dJs as acc δ κ XD QD →
    (∀ F' ρ' κ' H' out, Ext F ρ F' ρ' → StR C F' ρ' κ' H' → QD out κ' → Q out H') → PostX C F ρ XD W → tJs (as.map fun a => liftE C W a) acc σ H Q
  | [], _, _, _, _, _, _, _, _, _, _, S, R, h, P, PX => P _ _ _ _ _ (Ext.refl _ _) S h
  | a :: as, acc, F, ρ, κ, δ, XD, QD, σ, H, Q, S, R, h, P, PX =>
    ⟨F, ρ, κ, δ, XD, _, S, R, h, fun F1 ρ1 κ1 H1 x v e1 S1 R1 ⟨y, hy, hl, hr⟩ => by
      subst hy
      cases R1
      exact ⟨y, rfl, hl, lift_js S1 (R.ext e1) hr (fun F2 ρ2 κ2 H2 out e2 S2 q => P _ _ _ _ _ (e1.trans e2) S2 q) (PX.ext e1)⟩, PX⟩
theorem pd_joined (h : PJD X W (v1 :: v2 :: rest) as) : PED X W (.JoinedStr (v1 :: v2 :: rest) pos) (dJoined as) := pe_weak (pe_joined h) fun σ H Q ⟨F, ρ, κ, δ, XD, QD, S, R, h, P, PX⟩ =>
  lift_js S R h (fun F1 ρ1 κ1 H1 out e1 S1 q => P _ _ _ _ _ _ e1 S1 (.str _) q) PX
end
/-! ### int of a text -/
def fIntT : DN := fun xs κ Q => match xs with
  | [.str a] => ∃ n, PySem.intText? a = some n ∧ a.length ≤ 640 ∧ Q (.int n) κ
  | _ => False
theorem sim_intT {C : Ctx} : SimN C fIntT (fun xs H Q => ∃ a n, xs = [.str a] ∧ PySem.intText? a = some n ∧ a.length ≤ 640 ∧ Q (.int n) H) := by
  intro F ρ κ H xs vs QD Q S r h P
  match xs, h with
  | [.str a], ⟨n, h1, h2, h3⟩ =>
    obtain ⟨v, rfl, rx⟩ := repL1 r
    cases rx
    exact ⟨a, n, rfl, h1, h2, P _ _ _ _ _ _ (Ext.refl _ _) S (.int _) h3⟩
/-! ### a text many times -/
def fMulS : D2 := fun x y κ Q => match x, y with
  | .str a, .int n => MulOk a n ∧ Q (.str (Txt.mul a n)) κ
  | _, _ => False
theorem op_mulS {X : Cx} : OpR X (binaryOp .Mult) (fun x y H Q => ∃ a n, x = .str a ∧ y = .int n ∧ MulOk a n ∧ Q (.str (Txt.mul a n)) H) := by
  rintro pins s σ H x y v u Q I rx ry ⟨a, n, rfl, rfl, ok, q⟩
  obtain ⟨t, rfl⟩ := rx
  obtain ⟨t', rfl⟩ := ry
  exact PySem.SB.mul ok fun t2 k => ⟨.str (Txt.mul a n), H, I.tok k, ⟨_, rfl⟩, q⟩
theorem sim_mulS {C : Ctx} : Sim2 C fMulS (fun x y H Q => ∃ a n, x = .str a ∧ y = .int n ∧ MulOk a n ∧ Q (.str (Txt.mul a n)) H) := by
  intro F ρ κ H x y v u QD Q S rx ry h P
  cases x <;> first | exact h.elim | skip
  cases y <;> first | exact h.elim | skip
  cases rx
  cases ry
  exact ⟨_, _, rfl, rfl, h.1, P _ _ _ _ _ _ (Ext.refl _ _) S (.str _) h.2⟩
theorem pd_mulS {X : Cx} {W : WX} {e1 e2 : Expr} {a b : DE} {pos : Pos} (ha : PED X W e1 a) (hb : PED X W e2 b) : PED X W (.BinOp e1 .Mult e2 pos) (dOp fMulS a b) := pd_op op_mulS sim_mulS ha hb
end DL

/-! DLt: x, *y = a list. -/
namespace DL
open PySem PySem.Spec PyProof.Rows L2
section
variable {prog : Program} {w : World} {A : Around} {E : Value → Shared → Prop} {s : Shared}
theorem shiftS {I : Addr} {fp wr : List Addr} {G : Array GenState → Array GenState → Prop} {n : Nat} {P : Nat → Value → Prop} {St : Nat → Shared → Prop} (W : WalksS prog w A I fp wr G (n + 1) P St) :
    WalksS prog w A I fp wr G n (fun i v => P (i + 1) v) (fun i s => St (i + 1) s) where
  sub := W.sub
  grefl := W.grefl
  gtrans := W.gtrans
  frame := fun i => W.frame (i + 1)
  item := fun i s Q E hi st hQ => W.item (i + 1) s Q E (by omega) st hQ
  done := fun s Q E st hQ => W.done s Q E st hQ
  self := fun i => W.self (i + 1)
theorem unpack_star {l : Addr} {items : Array Value} {x : Value} {n : Nat} {Q : List Value → Shared → Prop} (calm : A.handled = none) (hl : s.heap.IsList l items) (h0 : items[0]? = some x) (hn : items.size = n + 1) (hz : n ≤ sizeLine)
    (want : ∀ (h' : Heap) (tk : Nat), s.toks ≤ tk → (∀ b o, s.heap.get? b = some o → h'.get? b = some o) →
      Q [x, .ref h'.objs.size] { s with heap := h'.push { cls := .type "list", data := .seq (items.toList.drop 1).toArray }, toks := tk }) :
    wpAny (model prog w) A (unpackItems (.ref l) 2 (some 1)) Q E s := by
  have ne : l ≠ s.heap.objs.size := by
    obtain ⟨_, z, _⟩ := hl
    exact Nat.ne_of_lt (Heap.lt_size z)
  unfold unpackItems
  refine wpAny_bind ?_
  unfold notIterableAtAll
  refine wpAny_bind (wpAny_specialOf hl.typeIs slot_list_iter.lookup (wpAny_pure ?_))
  simp only [Bool.false_eq_true, if_false]
  refine wpAny_bind (wpAny_holding (wpAny_pyIter_list hl ?_))
  generalize eI : s.heap.objs.size = it at ne
  have hit : (s.heap.push { cls := .type "list_iterator", data := .fields #[.ref l, .int 0 0] }).IsListIter it l 0 := by
    rw [← eI]
    exact ⟨_, Heap.get?_push_size _ rfl, rfl, rfl⟩
  refine wpAny_bind (wpAny_holding ?_)
  show wpAny _ _ (pyNext (.ref it) >>= _) _ _ _
  refine wpAny_bind (wpAny_pyNext_list_item hit (hl.push _) h0 fun h1 hit1 same1 => ?_)
  refine wpAny_bind (wpAny_holding ?_)
  show wpAny _ _ (pure []) _ _ _
  refine wpAny_pure (wpAny_pure ?_)
  rw [if_neg (show ¬ ([x] : List Value).length < 1 by show ¬ (1 < 1); omega)]
  have hl1 : h1.IsList l items := (hl.push _).extBut same1.extBut ne
  have W := (Walks.list (prog := prog) (w := w) (A := A.in1) calm it l ne items).toS
  rw [hn] at W
  have W1 := shiftS W
  refine wpAny_bind (wpAny_holding (wpAny_collect_iter (.inr (.inr (.inl rfl))) W1 (fun i s st => st.1.typeIs) ⟨hit1, hl1⟩ ?_ (by simp) (fun s' acc moved items' => ?_) hz))
  · intro b hb
    simp only [List.mem_cons, List.not_mem_nil, or_false] at hb
    rcases hb with rfl | rfl
    · obtain ⟨_, z, _⟩ := hit1
      exact Heap.lt_size z
    · obtain ⟨_, z, _⟩ := hl1
      exact Heap.lt_size z
  obtain ⟨h2, g2, d2, tk2, os2⟩ := s'
  obtain ⟨kept, sameG, sameD, sameO, later⟩ := moved
  have sameG : g2 = s.gens := sameG
  have sameD : d2 = s.drawn := sameD
  have sameO : os2 = s.os := sameO
  have later : s.toks ≤ tk2 := later
  subst sameG sameD sameO
  have rest : acc.toList = items.toList.drop 1 := by
    refine List.ext_getElem? fun j => ?_
    rw [List.getElem?_drop, Array.getElem?_toList, Array.getElem?_toList]
    cases e : acc[j]? with
    | none =>
      have : acc.size ≤ j := Array.getElem?_eq_none_iff.mp e
      rw [items'.1] at this
      exact (Array.getElem?_eq_none_iff.mpr (by omega)).symm
    | some v =>
      have := items'.2 j v e
      rw [Nat.add_comm 1 j]
      exact this.symm
  have len : acc.toList.length = n := by rw [Array.length_toList]; exact items'.1
  rw [if_neg (show ¬ acc.toList.length < 2 - 1 - 1 by omega)]
  have whole : acc.toList.take (acc.toList.length - (2 - 1 - 1)) = acc.toList := List.take_of_length_le (by omega)
  have none' : acc.toList.drop (acc.toList.length - (2 - 1 - 1)) = [] := List.drop_eq_nil_of_le (by omega)
  show wpAny _ _ (newList (acc.toList.take (acc.toList.length - (2 - 1 - 1))) >>= _) _ _ _
  rw [whole, none']
  refine wpAny_bind (wpAny_newObj_type ?_ (by show acc.toList.length ≤ sizeLine; omega))
  rw [rest]
  refine wpAny_pure ?_
  show Q [x, .ref h2.objs.size] _
  refine want h2 tk2 later fun b o e => ?_
  have nb : b ≠ it := by
    rw [← eI]
    exact Nat.ne_of_lt (Heap.lt_size e)
  exact kept b o (by simpa using nb) (same1.extBut b o nb (Heap.get?_push_of_some _ e))
end
/-- x, *y = a list -/
def tStarA (K : PySem.W.Frag) (i j : Nat) : TG := fun v σ H Q => ∃ a y ys, v = .ref a ∧ SqL K H a (y :: ys) ∧ ∀ p, H p = none → Q ((σ.set i (some y)).set j (some (.ref p))) (upd H p (.lst ys))
theorem pg_star {X : Cx} {i j : Nat} {x y : Str} {p1 p2 p3 pos : Pos} {k : Nat} (calm : X.calm = true) (nd : X.N.Nodup) (hi : X.N[i]? = some x) (hj : X.N[j]? = some y)
    (hx : X.env.scope.names.lookup x = some .local) (hy : X.env.scope.names.lookup y = some .local) : PG X (.Tuple [.Name x p1, .Starred (.Name y p2) p3] k pos) (tStarA X.K i j) := by
  refine ⟨fun pins s σ H v u Q I r ⟨a, y0, ys, e1, sq, todo⟩ => ?_⟩
  subst e1
  cases r
  obtain ⟨its, rel, pl, small⟩ := I.list sq
  cases rel with
  | cons r0 rel =>
    rename_i u0 us
    have lens : us.length = ys.length := (Paired.length rel).symm
    rw [assign_Tuple]
    refine wpAny_bind (wpAny_standAt ?_)
    unfold unpack
    show wpAny _ _ (holding [Value.ref a] (unpackItems (.ref a) 2 (some 1)) >>= fun xs => assignInOrder [assign (.Name x p1) X.env, assign (.Name y p2) X.env] xs) _ _ _
    have hz : us.length ≤ sizeLine := by
      have : (y0 :: ys).length ≤ sizeLine := small
      rw [List.length_cons] at this
      omega
    refine wpAny_bind (wpAny_holding (unpack_star (I.ok.hd calm) pl.isList rfl (n := us.length) (by simp) hz fun h' tk later kept => ?_))
    have I1 : L2.Inv X pins σ H { s with heap := h', toks := tk } := I.kept kept
    have new : H h'.objs.size = none := I1.hok.fresh (Nat.le_refl _)
    have I2 := I1.laid (t' := tk) (a := h'.objs.size) (o := .lst ys) (h' := h'.push { cls := .type "list", data := .seq us.toArray }) (fun b u q => Heap.get?_push_of_some _ q) (Nat.le_refl _)
      ⟨by omega, us, _, rel, Heap.get?_push_size _ rfl⟩
    show wpAny _ _ (assignInOrder [assign (.Name x p1) X.env, assign (.Name y p2) X.env] [u0, .ref h'.objs.size]) _ _ { s with heap := h'.push { cls := .type "list", data := .seq us.toArray }, toks := tk }
    refine assignInOrder_cons (wpAny_assign_Name
      (store_ok I2 nd hi (.inl hx) r0 (fun s2 I3 => ?_) (.inr hx)))
    refine assignInOrder_cons (wpAny_assign_Name
      (store_ok (v := .ref h'.objs.size) I3 nd hj (.inl hy) rfl (fun s3 I4 => assignInOrder_nil ?_) (.inr hy)))
    exact ⟨_, _, I4, todo _ new⟩
def gStarD (i j : Nat) : DG := fun d δ κ _ Q => ∃ y ys, view d κ = some (.lst, y :: ys) ∧ Q ((δ.set i (some y)).set j (some (.node .lst ys))) κ
theorem pg_starD {X : Cx} {W : WX} {i j : Nat} {x y : Str} {p1 p2 p3 pos : Pos} {k : Nat} (calm : X.calm = true) (nd : X.N.Nodup) (hi : X.N[i]? = some x := by rfl) (hj : X.N[j]? = some y := by rfl)
    (hx : X.env.scope.names.lookup x = some .local := by rfl) (hy : X.env.scope.names.lookup y = some .local := by rfl) : PGD X W (.Tuple [.Name x p1, .Starred (.Name y p2) p3] k pos) (gStarD i j) :=
  pg_weak (pg_star calm nd hi hj hx hy) fun v σ H Q ⟨F, ρ, κ, δ, d, XD, QD, S, R, rr, ⟨y, ys, h1, h2⟩, P, PX⟩ => by
  obtain ⟨a, vs, rfl, hk, rl⟩ := view_at S rr h1
  cases rl with
  | cons r0 rl =>
    refine ⟨a, _, _, rfl, SqL.of hk, fun p hp => ?_⟩
    obtain ⟨ex, S2⟩ := S.laid (p := p) (o := .lst _) hp
    exact P _ _ _ _ _ _ ex S2 (((R.ext ex).set (r0.ext ex) i).set (.node (k := .lst) upd_same (rl.ext ex)) j) h2
end DL

/-! DLu: zip of any lists and tuples, at the library's level. -/
namespace ZN
open PySem
section
variable {prog : Program} {w : World} {A : Around} {E : Value → Shared → Prop} {s : Shared}
/-- a loop over a list that never leaves early -/
theorem zloop {α β : Type} {M : Model} {f : α → β → Sem (ForInStep β)} {Q : β → Shared → Prop} (Pv : Nat → β → Shared → Prop) : ∀ (ps : List α) (j : Nat) (b : β) (s : Shared),
    (∀ i p b s, ps[i]? = some p → Pv (j + i) b s → wpAny M A (f p b) (fun r s' => ∃ b', r = .yield b' ∧ Pv (j + i + 1) b' s') E s) → Pv j b s → (∀ b s, Pv (j + ps.length) b s → Q b s) → wpAny M A (forIn ps b f) Q E s
  | [], j, b, s, _, h, hq => by
    rw [List.forIn_nil]
    exact wpAny_pure (hq b s h)
  | p :: ps, j, b, s, st, h, hq => by
    rw [List.forIn_cons]
    refine wpAny_bind (wpAny_mono (st 0 p b s rfl h) ?_ fun _ _ e => e)
    rintro r s' ⟨b', rfl, hp⟩
    refine zloop Pv ps (j + 1) b' s' (fun i q c t hi hc => ?_) hp fun c t hc => hq c t ?_
    · have := st (i + 1) q c t hi (by rw [show j + (i + 1) = j + 1 + i by omega]; exact hc)
      rw [show j + (i + 1) + 1 = j + 1 + i + 1 by omega] at this
      exact this
    · rw [List.length_cons, show j + (ps.length + 1) = j + 1 + ps.length by omega]
      exact hc
/-- what zip walks: an iterator, whose it is, the items -/
structure Zs where
  it : Addr
  l : Addr
  xs : Array Value
def Sq (h : Heap) (l : Addr) (xs : Array Value) : Prop := h.IsList l xs ∨ h.IsTuple l xs
def Src (h : Heap) (k : Nat) (c : Zs) : Prop := (h.IsListIter c.it c.l k ∧ h.IsList c.l c.xs) ∨ (h.IsTupleIter c.it c.l k ∧ h.IsTuple c.l c.xs)
theorem Src.ext {h h' : Heap} {b : Addr} {k : Nat} {c : Zs} (x : Src h k c) (hs : Heap.ExtBut b h h') (h1 : c.it ≠ b) (h2 : c.l ≠ b) : Src h' k c := by
  rcases x with ⟨a, d⟩ | ⟨a, d⟩
  · exact .inl ⟨a.extBut hs h1, d.extBut hs h2⟩
  · exact .inr ⟨a.extBut hs h1, d.extBut hs h2⟩
theorem Src.obj {h : Heap} {k : Nat} {c : Zs} (x : Src h k c) : ∃ o vs, h.get? c.it = some o ∧ o.data = .fields vs := by
  rcases x with ⟨⟨o, a, b, d⟩, _⟩ | ⟨⟨o, a, b, d⟩, _⟩
  · exact ⟨o, _, a, d⟩
  · exact ⟨o, _, a, d⟩
theorem Src.keep {h h' : Heap} {k : Nat} {c : Zs} (x : Src h k c) (h1 : ∀ o, h.get? c.it = some o → h'.get? c.it = some o) (h2 : ∀ o, h.get? c.l = some o → h'.get? c.l = some o) : Src h' k c := by
  rcases x with ⟨⟨o, a, b⟩, ⟨o', d, e⟩⟩ | ⟨⟨o, a, b⟩, ⟨o', d, e⟩⟩
  · exact .inl ⟨⟨o, h1 _ a, b⟩, ⟨o', h2 _ d, e⟩⟩
  · exact .inr ⟨⟨o, h1 _ a, b⟩, ⟨o', h2 _ d, e⟩⟩
theorem src_item {k : Nat} {c : Zs} {v : Value} {Q : Value → Shared → Prop} (x : Src s.heap k c) (ne : c.l ≠ c.it) (hx : c.xs[k]? = some v)
    (hQ : ∀ h', Src h' (k + 1) c → Heap.SameBut c.it s.heap h' → Q v { s with heap := h' }) : wpAny (model prog w) A (Builtin.SmallTypes.nextOf (.ref c.it)) Q E s := by
  rcases x with ⟨a, d⟩ | ⟨a, d⟩
  · exact wpAny_nextOf_list_item a d hx fun h' b sb => hQ h' (.inl ⟨b, d.extBut sb.extBut ne⟩) sb
  · exact RZ.nextOf_tuple_item a d hx fun h' b sb => hQ h' (.inr ⟨b, d.extBut sb.extBut ne⟩) sb
theorem src_end {k : Nat} {c : Zs} {Q : Value → Shared → Prop} (hh : A.handled = none) (x : Src s.heap k c) (hx : c.xs[k]? = none)
    (hE : ∀ h' e, Heap.ExtBut c.it s.heap h' → (∃ o, h'.get? e = some o ∧ o.cls = .type "StopIteration") → E (.ref e) { s with heap := h' }) : wpAny (model prog w) A (Builtin.SmallTypes.nextOf (.ref c.it)) Q E s := by
  rcases x with ⟨a, d⟩ | ⟨a, d⟩
  · exact wpAny_nextOf_list_end hh a d hx hE
  · exact RZ.nextOf_tuple_end hh a d hx hE
theorem src_new {l : Addr} {xs : Array Value} {Q : Value → Shared → Prop} (x : Sq s.heap l xs) (hQ : ∀ o : Obj, Src (s.heap.push o) 0 ⟨s.heap.objs.size, l, xs⟩ → Q (.ref s.heap.objs.size) { s with heap := s.heap.push o }) :
    wpAny (model prog w) A (pyIter (.ref l)) Q E s := by
  rcases x with a | a
  · exact wpAny_pyIter_list a (hQ _ (.inl ⟨⟨_, Heap.get?_push_size _ rfl, rfl, rfl⟩, a.push _⟩))
  · exact wpAny_pyIter_tuple a (hQ _ (.inr ⟨⟨_, Heap.get?_push_size _ rfl, rfl, rfl⟩, a.push _⟩))
/-- the things of one zip lie apart -/
structure Apart (z TI TO : Addr) (cs : List Zs) : Prop where
  tz : TI ≠ z
  oz : TO ≠ z
  to : TI ≠ TO
  i : ∀ c ∈ cs, c.it ≠ z ∧ c.it ≠ TI ∧ c.it ≠ TO
  nd : ∀ (i j : Nat) (c d : Zs), cs[i]? = some c → cs[j]? = some d → i ≠ j → c.it ≠ d.it
  l : ∀ c ∈ cs, c.l ≠ z ∧ c.l ≠ TO ∧ ∀ d ∈ cs, c.l ≠ d.it
abbrev IsT (h : Heap) (T : Addr) (vs : List Value) : Prop := h.get? T = some { cls := .type "tuple", data := .seq vs.toArray }
def refsOf (cs : List Zs) : List Value := cs.map fun c => .ref c.it
/-- all but what a zip writes stays -/
def Stays (z TO : Addr) (cs : List Zs) (h h' : Heap) : Prop := ∀ a o, a ≠ z → a ≠ TO → (∀ c ∈ cs, a ≠ c.it) → h.get? a = some o → h'.get? a = some o
theorem upd_same {xs : List Value} {j : Nat} {v : Value} {i : Nat} : (xs.set j v)[i]? = if i = j ∧ j < xs.length then some v else xs[i]? := by
  rw [List.getElem?_set]
  by_cases h : j = i
  · subst h
    by_cases h2 : j < xs.length
    · simp [h2]
    · simp [h2]
  · rw [if_neg h, if_neg fun q => h q.1.symm]
theorem zs_next {z TI TO : Addr} {cs : List Zs} {k : Nat} {ts : List Value} {Q : Value → Shared → Prop} (hh : A.handled = none) (D : Apart z TI TO cs) (hne : cs ≠ []) (hn : cs.length ≤ 100) (hz : IsZip s.heap z TI TO .none) (hTI : IsT s.heap TI (refsOf cs)) (hTO : IsT s.heap TO ts) (htl : ts.length = cs.length) (hs : ∀ c ∈ cs, Src s.heap k c)
    (hQ : ∀ (vs : List Value) h', vs.length = cs.length → (∀ (i : Nat) (c : Zs), cs[i]? = some c → c.xs[k]? = vs[i]?) → IsZip h' z TI TO (rawInt s.heap.objs.size) → IsT h' TO vs → (∀ c ∈ cs, Src h' (k + 1) c) → IsT h' s.heap.objs.size vs →
      Stays z TO cs s.heap h' → Q (.ref s.heap.objs.size) { s with heap := h' })
    (hE : ∀ c ∈ cs, c.xs[k]? = none → ∀ h' e, Stays z TO cs s.heap h' → (∃ o, h'.get? e = some o ∧ o.cls = .type "StopIteration") → E (.ref e) { s with heap := h' }) :
    wpAny (model prog w) A (Builtin.«zip.__next__» ⟨[.ref z], []⟩) (fun fin s' => ∃ v, fin = .done (.ret v) ∧ Q v s') E s := by
  show wpAny _ _ (field (.ref z) 2 >>= _) _ _ _
  refine wpAny_bind (wpAny_field hz rfl (x := .bool false) rfl ?_)
  show wpAny _ _ (field (.ref z) 3 >>= _) _ _ _
  refine wpAny_bind (wpAny_field hz rfl (x := .ref TI) rfl ?_)
  refine wpAny_bind (wpAny_seqItems hTI rfl ?_)
  have he : ((refsOf cs).toArray.isEmpty = true) = False := by
    cases cs with
    | nil => exact absurd rfl hne
    | cons c cs => simp [refsOf]
  dsimp only
  rw [if_neg (by rw [he]; exact id)]
  show wpAny _ _ (Builtin.SmallTypes.ownedTupleIsFree (.ref z) >>= _) _ _ _
  refine wpAny_bind ?_
  unfold Builtin.SmallTypes.ownedTupleIsFree
  refine wpAny_bind (wpAny_field hz rfl (x := .none) rfl (wpAny_pure ?_))
  rw [if_pos rfl]
  refine wpAny_bind (wpAny_rule ?_)
  refine wpAny_bind (wpAny_field hz rfl (x := .ref TO) rfl ?_)
  refine wpAny_bind (wpAny_setField_rec hz (by simp) fun g1 z1 k1 => ?_)
  replace z1 : IsZip g1 z TI TO .ellipsis := z1
  refine wpAny_bind (zloop (fun j b s' => b.1 = none ∧ ∃ (h' : Heap) (kept : List Value), s' = { s with heap := h' } ∧ h'.objs.size = s.heap.objs.size ∧ IsZip h' z TI TO .ellipsis ∧ IsT h' TO kept ∧ kept.length = cs.length ∧
    (∀ (i : Nat) (c : Zs), i < j → cs[i]? = some c → c.xs[k]? = kept[i]?) ∧ (∀ (i : Nat) (c : Zs), cs[i]? = some c → Src h' (if i < j then k + 1 else k) c) ∧ Stays z TO cs s.heap h') _ 0 _ _ ?step ?start ?done)
  case start =>
    refine ⟨rfl, g1, ts, rfl, k1.1, z1, k1.extBut _ _ D.oz hTO, htl, fun i c h => absurd h (by omega), fun i c hc => ?_, fun a o h1 _ _ e => k1.extBut _ _ h1 e⟩
    have hm := List.mem_of_getElem? hc
    exact (hs c hm).ext k1.extBut (D.i c hm).1 (D.l c hm).1
  case step =>
    rintro i ⟨it, j⟩ b s' hp ⟨hb1, h', kept, rfl, hsz, hz', hTO', hl, hv, hsr, hst⟩
    rw [Nat.zero_add] at hv hsr
    rw [List.getElem?_zipIdx, Option.map_eq_some_iff] at hp
    obtain ⟨v0, hv0, hp⟩ := hp
    rw [Nat.zero_add, Prod.mk.injEq] at hp
    obtain ⟨rfl, rfl⟩ := hp
    have hv0' : (refsOf cs)[i]? = some v0 := hv0
    unfold refsOf at hv0'
    rw [List.getElem?_map, Option.map_eq_some_iff] at hv0'
    obtain ⟨c, hc, rfl⟩ := hv0'
    have hm := List.mem_of_getElem? hc
    have hsc := hsr i c hc
    rw [if_neg (Nat.lt_irrefl i)] at hsc
    refine wpAny_bind (wpAny_onRaise ?_)
    show wpAny _ _ (Builtin.SmallTypes.nextOf (.ref c.it) >>= _) _ _ _
    cases hx : c.xs[k]? with
    | none =>
      refine wpAny_bind (src_end (s := { s with heap := h' }) hh hsc hx fun h2 e k2 he2 => ?_)
      obtain ⟨oe, hoe, hce⟩ := he2
      have z2 : IsZip h2 z TI TO .ellipsis := k2 _ _ (D.i c hm).1.symm hz'
      have hez : e ≠ z := fun q => by
        rw [q, z2] at hoe
        cases hoe
        simp at hce
      refine wpAny_setField_rec (s := { s with heap := h2 }) z2 (by simp) fun h3 _ k3 => ?_
      exact hE c hm hx h3 e (fun a o a1 a2 a3 q => k3.extBut _ _ a1 (k2 _ _ (a3 c hm) (hst a o a1 a2 a3 q))) ⟨oe, k3.extBut _ _ hez hoe, hce⟩
    | some v =>
      refine wpAny_bind (src_item (s := { s with heap := h' }) hsc ((D.l c hm).2.2 c hm) hx fun h2 sc2 k2 => wpAny_pure ?_)
      have hTO2 : IsT h2 TO kept := k2.extBut _ _ (D.i c hm).2.2.symm hTO'
      refine wpAny_bind (wpAny_seqItems (s := { s with heap := h2 }) hTO2 rfl ?_)
      have hkz : kept.toArray.size ≤ sizeLine := by
        rw [List.size_toArray, hl, sizeLine_eq]
        omega
      refine wpAny_bind (wpAny_updateSeq (s := { s with heap := h2 }) hTO2 rfl ?_ hkz (by rw [Array.size_setIfInBounds]; omega))
      refine wpAny_bind (wpAny_letGo (wpAny_pure ⟨_, rfl, by first | exact hb1 | rfl, ?_⟩))
      have k3 := Heap.SameBut.update h2 TO (Obj.mapSeq fun x => x.setIfInBounds i v)
      have hTO3 : IsT (h2.update TO (Obj.mapSeq fun x => x.setIfInBounds i v)) TO (kept.set i v) := by
        refine (Heap.get?_update_self _ hTO2 rfl).trans ?_
        simp [Obj.mapSeq]
      have hil : i < kept.length := by
        rw [hl]
        exact (List.getElem?_eq_some_iff.mp hc).1
      refine ⟨_, kept.set i v, rfl, k3.1.trans (k2.1.trans hsz), k3.extBut _ _ D.oz.symm (k2.extBut _ _ (D.i c hm).1.symm hz'), hTO3, by rw [List.length_set]; exact hl, fun i2 c2 h2' hc2 => ?_, fun i2 c2 hc2 => ?_, fun a o a1 a2 a3 q => k3.extBut _ _ a2 (k2.extBut _ _ (a3 c hm) (hst a o a1 a2 a3 q))⟩
      · rw [Nat.zero_add] at h2'
        rw [upd_same]
        by_cases e : i2 = i
        · subst e
          rw [if_pos ⟨rfl, hil⟩]
          rw [hc] at hc2
          cases hc2
          exact hx
        · rw [if_neg fun q => e q.1]
          exact hv i2 c2 (by omega) hc2
      · rw [Nat.zero_add]
        have hm2 := List.mem_of_getElem? hc2
        by_cases e : i2 = i
        · subst e
          rw [hc] at hc2
          cases hc2
          rw [if_pos (by omega)]
          exact sc2.ext k3.extBut (D.i c hm).2.2 (D.l c hm).2.1
        · have q := hsr i2 c2 hc2
          have q2 : (if i2 < i + 1 then k + 1 else k) = if i2 < i then k + 1 else k := by
            by_cases r : i2 < i
            · rw [if_pos r, if_pos (by omega)]
            · rw [if_neg r, if_neg (by omega)]
          rw [q2]
          exact (q.ext k2.extBut (D.nd i2 i c2 c hc2 hc e) ((D.l c2 hm2).2.2 c hm)).ext k3.extBut (D.i c2 hm2).2.2 (D.l c2 hm2).2.1
  case done =>
    rintro b s' ⟨hb1, h', kept, rfl, hsz, hz', hTO', hl, hv, hsr, hst⟩
    have hpl : (refsOf cs).toArray.toList.zipIdx.length = cs.length := by simp [refsOf]
    rw [hpl, Nat.zero_add] at hv hsr
    have hi2 : ∀ (i : Nat) (c : Zs), cs[i]? = some c → i < cs.length := fun i c hc => (List.getElem?_eq_some_iff.mp hc).1
    have hz100 : kept.length ≤ sizeLine := by
      rw [hl, sizeLine_eq]
      omega
    rw [hb1]
    refine wpAny_bind (wpAny_seqItems (s := { s with heap := h' }) hTO' rfl ?_)
    refine wpAny_bind (wpAny_newTuple (s := { s with heap := h' }) ?_ hz100)
    show wpAny _ _ (Builtin.SmallTypes.ownedTupleHandOut (.ref z) (.ref h'.objs.size) >>= _) _ _ _
    refine wpAny_bind ?_
    unfold Builtin.SmallTypes.ownedTupleHandOut
    have hzl : z < h'.objs.size := Heap.lt_size hz'
    have hz6 : IsZip (h'.push { cls := .type "tuple", data := .seq kept.toArray }) z TI TO .ellipsis := Heap.get?_push_of_some _ hz'
    refine wpAny_bind (wpAny_setField_rec (s := { s with heap := h'.push { cls := .type "tuple", data := .seq kept.toArray } }) hz6 (by simp) fun h7 hz7 k7 => ?_)
    replace hz7 : IsZip h7 z TI TO (rawInt h'.objs.size) := hz7
    refine wpAny_setField_rec (s := { s with heap := h7 }) hz7 (by simp) fun h8 hz8 k8 => ?_
    replace hz8 : IsZip h8 z TI TO (rawInt h'.objs.size) := hz8
    have up : ∀ a o, a ≠ z → h'.get? a = some o → h8.get? a = some o := fun a o a1 q => k8.extBut _ _ a1 (k7.extBut _ _ a1 (Heap.get?_push_of_some _ q))
    have new : IsT h8 h'.objs.size kept := k8.extBut _ _ (Nat.ne_of_gt hzl) (k7.extBut _ _ (Nat.ne_of_gt hzl) (Heap.get?_push_size _ rfl))
    refine wpAny_pure ⟨_, rfl, ?_⟩
    show Q (.ref h'.objs.size) _
    rw [hsz] at new hz8 ⊢
    refine hQ kept h8 hl (fun i c hc => hv i c (hi2 i c hc) hc) hz8 (up _ _ D.oz hTO') (fun c hc => ?_) new fun a o a1 a2 a3 q => up a o a1 (hst a o a1 a2 a3 q)
    obtain ⟨i, hi⟩ := List.mem_iff_getElem?.mp hc
    have q := hsr i c hi
    rw [if_pos (hi2 i c hi)] at q
    exact q.keep (fun o => up _ o (D.i c hc).1) fun o => up _ o (D.l c hc).1
/-- one turn of a loop over a zip -/
theorem pyNext_zs {z TI TO : Addr} {cs : List Zs} {k : Nat} {ts : List Value} {Q : Option Value → Shared → Prop} (hh : A.handled = none) (D : Apart z TI TO cs) (hne : cs ≠ []) (hn : cs.length ≤ 100) (hz : IsZip s.heap z TI TO .none) (hTI : IsT s.heap TI (refsOf cs)) (hTO : IsT s.heap TO ts) (htl : ts.length = cs.length) (hs : ∀ c ∈ cs, Src s.heap k c)
    (hQ : ∀ (vs : List Value) h', vs.length = cs.length → (∀ (i : Nat) (c : Zs), cs[i]? = some c → c.xs[k]? = vs[i]?) → IsZip h' z TI TO (rawInt s.heap.objs.size) → IsT h' TO vs → (∀ c ∈ cs, Src h' (k + 1) c) → IsT h' s.heap.objs.size vs →
      Stays z TO cs s.heap h' → Q (some (.ref s.heap.objs.size)) { s with heap := h' })
    (hE : ∀ c ∈ cs, c.xs[k]? = none → ∀ h', Stays z TO cs s.heap h' → Q none { s with heap := h' }) : wpAny (model prog w) A (pyNext (.ref z)) Q E s := by
  have hT : s.TypeIs (.ref z) "zip" := ⟨_, hz, rfl⟩
  unfold pyNext
  refine wpAny_bind (wpAny_attempt (wpAny_callSpecial?_slot (name := Str.ofString "__next__") hT F.slot_zip_next
    (wpAny_call_entry F.slot_zip_next hT F.entry_zip_next (zs_next hh D hne hn hz hTI hTO htl hs (fun vs h' a1 a2 a3 a4 a5 a6 a7 => wpAny_pure (hQ vs h' a1 a2 a3 a4 a5 a6 a7)) fun c hc hx h' e st he => ?_) (F.args_zip_next_1 _))))
  obtain ⟨o, ho, hcl⟩ := he
  refine wpAny_bind (wpAny_isInstance (T := "StopIteration") (b := true) ⟨o, ho, hcl⟩ isSubtype_stop ?_)
  exact wpAny_pure (hE c hc hx _ st)
/-! ### a zip is made -/
def made (h : Heap) : List (Addr × Array Value) → Nat → List Zs
  | [], _ => []
  | (l, xs) :: r, n => ⟨n, l, xs⟩ :: made h r (n + 1)
theorem made_get {h : Heap} : ∀ {ls : List (Addr × Array Value)} {n i : Nat} {c : Zs}, (made h ls n)[i]? = some c → c.it = n + i ∧ ∃ q, ls[i]? = some q ∧ c.l = q.1 ∧ c.xs = q.2
  | [], _, _, _, q => by simp [made] at q
  | (l, xs) :: r, n, 0, c, q => by
    have e : (⟨n, l, xs⟩ : Zs) = c := Option.some.inj q
    subst e
    exact ⟨rfl, _, rfl, rfl, rfl⟩
  | (l, xs) :: r, n, i + 1, c, q => by
    obtain ⟨a, b⟩ := made_get (ls := r) (n := n + 1) (i := i) q
    exact ⟨a.trans (Nat.add_right_comm n 1 i), b⟩
theorem made_len {h : Heap} : ∀ (ls : List (Addr × Array Value)) (n : Nat), (made h ls n).length = ls.length
  | [], _ => rfl
  | (l, xs) :: r, n => by
    show (made h r (n + 1)).length + 1 = r.length + 1
    rw [made_len r (n + 1)]
theorem iterAll_zs {ls : List (Addr × Array Value)} {Q : List Value → Shared → Prop} (hl : ∀ q ∈ ls, Sq s.heap q.1 q.2)
    (hQ : ∀ h', h'.objs.size = s.heap.objs.size + ls.length → (∀ a o, s.heap.get? a = some o → h'.get? a = some o) → (∀ c ∈ made s.heap ls s.heap.objs.size, Src h' 0 c) → Q (refsOf (made s.heap ls s.heap.objs.size)) { s with heap := h' }) :
    wpAny (model prog w) A (Builtin.SmallTypes.iterAll (ls.map fun q => .ref q.1)) Q E s := by
  unfold Builtin.SmallTypes.iterAll
  refine wpAny_bind (zloop (fun j (b : Array Value) s' => ∃ h' : Heap, s' = { s with heap := h' } ∧ h'.objs.size = s.heap.objs.size + j ∧ (∀ a o, s.heap.get? a = some o → h'.get? a = some o) ∧
    b.toList = (refsOf (made s.heap ls s.heap.objs.size)).take j ∧ ∀ i c, i < j → (made s.heap ls s.heap.objs.size)[i]? = some c → Src h' 0 c) _ 0 _ _ ?step ?start ?done)
  case start => exact ⟨s.heap, rfl, rfl, fun _ _ q => q, by simp, fun i c q => absurd q (by omega)⟩
  case step =>
    rintro i p b s' hp ⟨h', rfl, hsz, hk, hb, hs⟩
    rw [Nat.zero_add] at hsz hb hs
    rw [List.getElem?_map, Option.map_eq_some_iff] at hp
    obtain ⟨⟨l, xs⟩, hq, rfl⟩ := hp
    have hil : i < ls.length := (List.getElem?_eq_some_iff.mp hq).1
    have hmi : (made s.heap ls s.heap.objs.size)[i]? = some ⟨s.heap.objs.size + i, l, xs⟩ := by
      have hx : i < (made s.heap ls s.heap.objs.size).length := by rw [made_len]; exact hil
      have e := List.getElem?_eq_getElem hx
      obtain ⟨a1, q, a2, a3, a4⟩ := made_get e
      rw [hq] at a2
      cases a2
      rw [e]
      generalize (made s.heap ls s.heap.objs.size)[i] = c at a1 a3 a4
      obtain ⟨c1, c2, c3⟩ := c
      dsimp only at a1 a3 a4
      rw [a1, a3, a4]
    have sq : Sq h' l xs := by
      rcases hl _ (List.mem_of_getElem? hq) with ⟨o, a, b⟩ | ⟨o, a, b⟩
      · exact .inl ⟨o, hk _ _ a, b⟩
      · exact .inr ⟨o, hk _ _ a, b⟩
    refine wpAny_bind (wpAny_holding (src_new (s := { s with heap := h' }) sq fun o sr => wpAny_pure ?_))
    refine ⟨_, rfl, _, rfl, by rw [Heap.size_push, hsz]; omega, fun a o' q => Heap.get?_push_of_some _ (hk a o' q), ?_, fun i2 c h2 hc => ?_⟩
    · rw [Array.toList_push, hb, Nat.zero_add, List.take_add_one]
      congr 1
      unfold refsOf
      rw [List.getElem?_map, hmi]
      show _ = [Value.ref (s.heap.objs.size + i)]
      rw [hsz]
    · rw [Nat.zero_add] at h2
      by_cases e : i2 = i
      · subst e
        rw [hmi] at hc
        cases hc
        have hs2 : (Shared.heap { s with heap := h' }).objs.size = s.heap.objs.size + i2 := hsz
        rw [hs2] at sr
        exact sr
      · exact (hs i2 c (by omega) hc).keep (fun o q => Heap.get?_push_of_some _ q) fun o q => Heap.get?_push_of_some _ q
  case done =>
    rintro b s' ⟨h', rfl, hsz, hk, hb, hs⟩
    rw [List.length_map, Nat.zero_add] at hsz hb hs
    have hbl : b.toList = refsOf (made s.heap ls s.heap.objs.size) := by
      rw [hb]
      refine List.take_of_length_le ?_
      unfold refsOf
      rw [List.length_map, made_len]
      exact Nat.le_refl _
    show wpAny _ _ (pure b.toList) _ _ _
    rw [hbl]
    refine wpAny_pure (hQ h' hsz hk fun c hc => ?_)
    obtain ⟨i, hi⟩ := List.mem_iff_getElem?.mp hc
    refine hs i c ?_ hi
    have := (List.getElem?_eq_some_iff.mp hi).1
    rw [made_len] at this
    exact this
theorem zip_new {ls : List (Addr × Array Value)} (hn : ls.length ≤ 100) : Meets (Builtin.«zip.__new__» ⟨.type "zip" :: ls.map (fun q => .ref q.1), []⟩) (fun _ R s => (∀ q ∈ ls, Sq s.heap q.1 q.2) ∧
    ∀ (h' : Heap) (cs : List Zs), cs = made s.heap ls s.heap.objs.size → IsZip h' (s.heap.objs.size + ls.length + 2) (s.heap.objs.size + ls.length) (s.heap.objs.size + ls.length + 1) .none → IsT h' (s.heap.objs.size + ls.length) (refsOf cs) →
      IsT h' (s.heap.objs.size + ls.length + 1) (cs.map fun _ => .none) → (∀ c ∈ cs, Src h' 0 c) → (∀ a o, s.heap.get? a = some o → h'.get? a = some o) → R (.ok (.ret (.ref (s.heap.objs.size + ls.length + 2)))) { s with heap := h' }) :=
  .of_wp fun prog w A R s h => by
    obtain ⟨hl, h⟩ := h
    show wpAny _ _ (Builtin.SmallTypes.newClass "zip" _ >>= _) _ _ s
    refine wpAny_bind ?_
    unfold Builtin.SmallTypes.newClass
    dsimp only
    refine wpAny_bind (wpAny_of_eq (a := true) (by first | rfl | (simp only [isType]; rfl)) ?_)
    show wpAny _ _ (isSubtype (.type "zip") (.type "zip") >>= _) _ _ s
    refine wpAny_bind (wpAny_of_eq sub_zip ?_)
    refine wpAny_pure ?_
    show wpAny _ _ (Builtin.SmallTypes.iterAll (ls.map fun q => Value.ref q.1) >>= _) _ _ s
    refine wpAny_bind (iterAll_zs hl fun h1 z1 k1 s1 => ?_)
    have hm : (made s.heap ls s.heap.objs.size).length ≤ sizeLine := by
      rw [made_len, sizeLine_eq]
      omega
    refine wpAny_bind (wpAny_newTuple (s := { s with heap := h1 }) ?_ (by unfold refsOf; rw [List.length_map]; exact hm))
    refine wpAny_bind (wpAny_newTuple ?_ (by unfold refsOf; rw [List.length_map, List.length_map]; exact hm))
    have hA : s.heap.objs.size + ls.length = h1.objs.size := z1.symm
    rw [hA] at h
    have hB : (h1.push { cls := .type "tuple", data := .seq (refsOf (made s.heap ls s.heap.objs.size)).toArray }).objs.size = h1.objs.size + 1 := Heap.size_push ..
    have hC : ((h1.push { cls := .type "tuple", data := .seq (refsOf (made s.heap ls s.heap.objs.size)).toArray }).push { cls := .type "tuple", data := .seq ((refsOf (made s.heap ls s.heap.objs.size)).map fun _ => Value.none).toArray }).objs.size = h1.objs.size + 2 := by
      rw [Heap.size_push, hB]
    refine wpAny_bind ?_
    unfold Builtin.SmallTypes.newRecord
    refine wpAny_newObj_type ?_ (by show _ ≤ sizeLine + 2; rw [sizeLine_eq]; simp [Builtin.SmallTypes.ownedTupleFields])
    refine wpAny_pure ⟨_, rfl, ?_⟩
    dsimp only
    rw [hC, hB]
    have g1 := Heap.get?_push_size h1 (o := ({ cls := .type "tuple", data := .seq (refsOf (made s.heap ls s.heap.objs.size)).toArray } : Obj)) rfl
    have g2 := Heap.get?_push_size (h1.push { cls := .type "tuple", data := .seq (refsOf (made s.heap ls s.heap.objs.size)).toArray }) (o := ({ cls := .type "tuple", data := .seq ((refsOf (made s.heap ls s.heap.objs.size)).map fun _ => Value.none).toArray } : Obj)) rfl
    have g3 := Heap.get?_push_size ((h1.push { cls := .type "tuple", data := .seq (refsOf (made s.heap ls s.heap.objs.size)).toArray }).push { cls := .type "tuple", data := .seq ((refsOf (made s.heap ls s.heap.objs.size)).map fun _ => Value.none).toArray })
      (o := ({ cls := .type "zip", data := .fields (Builtin.SmallTypes.ownedTupleFields ++ [Value.bool false, Value.ref h1.objs.size, Value.ref (h1.objs.size + 1)]).toArray } : Obj)) rfl
    rw [hB] at g2
    rw [hC] at g3
    have up : ∀ (o1 o2 o3 : Obj) a o, h1.get? a = some o → (((h1.push o1).push o2).push o3).get? a = some o := fun _ _ _ a o q => Heap.get?_push_of_some _ (Heap.get?_push_of_some _ (Heap.get?_push_of_some _ q))
    refine h _ _ rfl g3 (Heap.get?_push_of_some _ (Heap.get?_push_of_some _ g1)) ?_ (fun c hc => (s1 c hc).keep (fun o => up _ _ _ _ o) fun o => up _ _ _ _ o) fun a o q => up _ _ _ _ o (k1 a o q)
    have g4 := Heap.get?_push_of_some ({ cls := .type "zip", data := .fields (Builtin.SmallTypes.ownedTupleFields ++ [Value.bool false, Value.ref h1.objs.size, Value.ref (h1.objs.size + 1)]).toArray } : Obj) g2
    refine g4.trans ?_
    unfold refsOf
    rw [List.map_map]
    rfl
/-- what the table asks of the call: of two, of three -/
structure Few (us : List Value) : Prop where
  t : checkTypeCall "zip" ⟨us, []⟩ = pure ()
  n : checkBuiltinCall "zip.__new__" ⟨.type "zip" :: us, []⟩ = pure ()
  i : ∀ obj, argsOk "object.__init__" ⟨obj :: us, []⟩
theorem few2 (a b : Value) : Few [a, b] := ⟨F.typeCall_zip_2 a b, F.newCall_zip_2 a b, fun o => F.args_object_init_3 o a b⟩
theorem few3 (a b c : Value) : Few [a, b, c] where
  t := by kernel_rfl
  n := by kernel_rfl
  i := fun obj => by
    unfold argsOk
    rw [signature?_of (id := "object.__init__") (n := ['_', '_', 't', 'i', 'n', 'i', '_', '_']) (o := ['t', 'c', 'e', 'j', 'b', 'o']) (by kernel_rfl) F.owner_object]
    kernel_rfl
theorem call_zs {ls : List (Addr × Array Value)} {Q : Value → Shared → Prop} (hf : Few (ls.map fun q => .ref q.1)) (hn : ls.length ≤ 100) (hl : ∀ q ∈ ls, Sq s.heap q.1 q.2)
    (h : ∀ (h' : Heap) (cs : List Zs), cs = made s.heap ls s.heap.objs.size → IsZip h' (s.heap.objs.size + ls.length + 2) (s.heap.objs.size + ls.length) (s.heap.objs.size + ls.length + 1) .none → IsT h' (s.heap.objs.size + ls.length) (refsOf cs) →
      IsT h' (s.heap.objs.size + ls.length + 1) (cs.map fun _ => .none) → (∀ c ∈ cs, Src h' 0 c) → (∀ a o, s.heap.get? a = some o → h'.get? a = some o) → Q (.ref (s.heap.objs.size + ls.length + 2)) { s with heap := h' }) :
    wpAny (model prog w) A (call (.type "zip") (ls.map fun q => .ref q.1)) Q E s := by
  refine callType_new F.called_zip (by decide) hf.t hf.n hf.i F.entry_zip_new (zip_new hn) ⟨hl, fun h' cs e hz hTI hTO hs hk => ?_⟩
  exact ⟨⟨_, hz, rfl⟩, h h' cs e hz hTI hTO hs hk⟩
theorem made_apart {h : Heap} {ls : List (Addr × Array Value)} (hl : ∀ q ∈ ls, q.1 < h.objs.size) : Apart (h.objs.size + ls.length + 2) (h.objs.size + ls.length) (h.objs.size + ls.length + 1) (made h ls h.objs.size) := by
  have at_ : ∀ c ∈ made h ls h.objs.size, ∃ i, i < ls.length ∧ c.it = h.objs.size + i ∧ c.l < h.objs.size := fun c hc => by
    obtain ⟨i, hi⟩ := List.mem_iff_getElem?.mp hc
    obtain ⟨a, q, b, d, _⟩ := made_get hi
    refine ⟨i, (List.getElem?_eq_some_iff.mp b).1, a, ?_⟩
    rw [d]
    exact hl _ (List.mem_of_getElem? b)
  have key : ∀ {a b : Nat}, a < b → a ≠ b := fun h => Nat.ne_of_lt h
  refine ⟨Nat.ne_of_lt (by show h.objs.size + ls.length < _; omega), Nat.ne_of_lt (by show h.objs.size + ls.length + 1 < _; omega), Nat.ne_of_lt (by show h.objs.size + ls.length < _; omega), fun c hc => ?_, fun i j c d hc hd e => ?_, fun c hc => ?_⟩
  · obtain ⟨i, hi, e, _⟩ := at_ c hc
    rw [e]
    exact ⟨Nat.ne_of_lt (by show h.objs.size + i < _; omega), Nat.ne_of_lt (by show h.objs.size + i < _; omega), Nat.ne_of_lt (by show h.objs.size + i < _; omega)⟩
  · rw [(made_get hc).1, (made_get hd).1]
    intro q
    exact e (Nat.add_left_cancel q)
  · obtain ⟨i, hi, e, hlt⟩ := at_ c hc
    refine ⟨Nat.ne_of_lt (Nat.lt_of_lt_of_le hlt (by show _ ≤ h.objs.size + ls.length + 2; omega)), Nat.ne_of_lt (Nat.lt_of_lt_of_le hlt (by show _ ≤ h.objs.size + ls.length + 1; omega)), fun d hd => ?_⟩
    obtain ⟨j, hj, e2, _⟩ := at_ d hd
    rw [e2]
    exact Nat.ne_of_lt (Nat.lt_of_lt_of_le hlt (Nat.le_add_right _ _))
end
end ZN

/-! DLv: zip in loops and comprehensions. -/
namespace ZN
open PySem PySem.Spec PyProof.Rows L2
def SqK (K : PySem.W.Frag) (H : Hp) (b : Bool) (a : Addr) (xs : List V) : Prop := match b with
  | true => SqL K H a xs
  | false => SqT K H a xs
def SrcI (h : Heap) (i : Nat) (b : Bool) (it l : Addr) : Prop := match b with
  | true => h.IsListIter it l i
  | false => h.IsTupleIter it l i
def Shp (b : Bool) (h : Heap) (a : Addr) (xs : Array Value) : Prop := match b with
  | true => h.IsList a xs
  | false => h.IsTuple a xs
theorem paired_of {α β : Type} {R : α → β → Prop} : ∀ {xs : List α} {us : List β}, xs.length = us.length → (∀ (j : Nat) (x : α) (u : β), xs[j]? = some x → us[j]? = some u → R x u) → Paired R xs us
  | [], [], _, _ => .nil
  | [], _ :: _, h, _ => by simp at h
  | _ :: _, [], h, _ => by simp at h
  | x :: xs, u :: us, h, p => .cons (p 0 x u rfl rfl) (paired_of (by simpa using h) fun j y v h1 h2 => p (j + 1) y v h1 h2)
theorem list_of {α : Type} {P : Nat → α → Prop} : ∀ n : Nat, (∀ j, j < n → ∃ a, P j a) → ∃ l : List α, l.length = n ∧ ∀ (j : Nat) (a : α), l[j]? = some a → P j a
  | 0, _ => ⟨[], rfl, fun j a h => by simp at h⟩
  | n + 1, h => by
    obtain ⟨l, hl, p⟩ := list_of n fun j hj => h j (by omega)
    obtain ⟨a, ha⟩ := h n (by omega)
    refine ⟨l ++ [a], by simp [hl], fun j b hb => ?_⟩
    by_cases e : j < n
    · rw [List.getElem?_append_left (by omega)] at hb
      exact p j b hb
    · rw [List.getElem?_append_right (by omega), hl] at hb
      have e2 : j - n = 0 := by
        cases hjn : j - n with
        | zero => rfl
        | succ k => rw [hjn] at hb; simp at hb
      rw [e2] at hb
      cases hb
      rw [show j = n by omega]
      exact ha
/-- the lists and tuples as they stand at each turn, their items in a new tuple -/
def ItzN (K : PySem.W.Frag) (ks : List (Bool × Addr)) : It :=
  ⟨fun i H => ∀ (j : Nat) (q : Bool × Addr), ks[j]? = some q → ∃ xs x, SqK K H q.1 q.2 xs ∧ xs[i]? = some x,
    fun i H v H' => ∃ T vs, v = .ref T ∧ H T = none ∧ H' = upd H T (.tup vs) ∧ vs.length = ks.length ∧ ∀ (j : Nat) (q : Bool × Addr) (xs : List V), ks[j]? = some q → SqK K H q.1 q.2 xs → ∃ x, xs[i]? = some x ∧ vs[j]? = some x,
    fun i H => (∀ (j : Nat) (q : Bool × Addr), ks[j]? = some q → ∃ xs, SqK K H q.1 q.2 xs) ∧ ∃ (j : Nat) (q : Bool × Addr) (xs : List V), ks[j]? = some q ∧ SqK K H q.1 q.2 xs ∧ xs.length ≤ i⟩
section
variable {X : Cx} {pins : List (Addr × Obj)} {σ : L2.St} {H : Hp} {s : Shared}
theorem seq_at {b : Bool} {a : Addr} {xs : List V} (I : Inv X pins σ H s) (h : SqK X.K H b a xs) : ∃ its : List Value, Vals xs its ∧ Shp b s.heap a its.toArray := by
  cases b with
  | true =>
    obtain ⟨its, rv, p, _⟩ := I.list h
    exact ⟨its, rv, p.isList⟩
  | false =>
    obtain ⟨its, rv, p, _⟩ := I.tuple h
    exact ⟨its, rv, p⟩
theorem seq_inj {b : Bool} {a : Addr} {xs ys : List V} (I : Inv X pins σ H s) (h : SqK X.K H b a xs) (h' : SqK X.K H b a ys) : xs = ys := by
  cases b with
  | true => exact I.list_inj h h'
  | false => exact I.tuple_inj h h'
/-- the sources as they stand now -/
theorem srcs_at {ks : List (Bool × Addr)} {its : List Addr} {k : Nat} (I : Inv X pins σ H s) (hl : its.length = ks.length) (hi : ∀ (j : Nat) (q : Bool × Addr) (it : Addr), ks[j]? = some q → its[j]? = some it → SrcI s.heap k q.1 it q.2)
    (hq : ∀ (j : Nat) (q : Bool × Addr), ks[j]? = some q → ∃ xs, SqK X.K H q.1 q.2 xs) :
    ∃ cs : List Zs, cs.length = ks.length ∧ ∀ (j : Nat) (c : Zs), cs[j]? = some c → ∃ q xs us, ks[j]? = some q ∧ its[j]? = some c.it ∧ c.l = q.2 ∧ SqK X.K H q.1 q.2 xs ∧ Vals xs us ∧ c.xs = us.toArray ∧ Src s.heap k c := by
  refine list_of ks.length fun j hj => ?_
  have e1 := List.getElem?_eq_getElem hj
  have e2 := List.getElem?_eq_getElem (show j < its.length by omega)
  generalize ks[j] = q at e1
  generalize its[j]'(show j < its.length by omega) = it at e2
  obtain ⟨xs, hx⟩ := hq j q e1
  obtain ⟨us, rv, hs⟩ := seq_at I hx
  have hsi := hi j q it e1 e2
  obtain ⟨b, a⟩ := q
  refine ⟨⟨it, a, us.toArray⟩, (b, a), xs, us, e1, e2, rfl, hx, rv, rfl, ?_⟩
  cases b with
  | true => exact .inl ⟨hsi, hs⟩
  | false => exact .inr ⟨hsi, hs⟩
theorem refs_of {cs : List Zs} {its : List Addr} (hl : cs.length = its.length) (h : ∀ (j : Nat) (c : Zs), cs[j]? = some c → its[j]? = some c.it) : refsOf cs = its.map Value.ref := by
  unfold refsOf
  refine List.ext_getElem? fun j => ?_
  rw [List.getElem?_map, List.getElem?_map]
  cases hc : cs[j]? with
  | none =>
    rw [List.getElem?_eq_none_iff] at hc
    rw [List.getElem?_eq_none_iff.mpr (by omega)]
    rfl
  | some c =>
    rw [h j c hc]
    rfl
/-- where a zip's own things lie -/
structure Ap (z TI TO : Addr) (its : List Addr) (ks : List (Bool × Addr)) : Prop where
  tz : TI ≠ z
  oz : TO ≠ z
  to : TI ≠ TO
  i : ∀ a ∈ its, a ≠ z ∧ a ≠ TI ∧ a ≠ TO
  nd : ∀ (i j : Nat) (a b : Addr), its[i]? = some a → its[j]? = some b → i ≠ j → a ≠ b
  l : ∀ q ∈ ks, q.2 ≠ z ∧ q.2 ≠ TO ∧ ∀ a ∈ its, q.2 ≠ a
theorem Ap.to' {z TI TO : Addr} {its : List Addr} {ks : List (Bool × Addr)} {cs : List Zs} (D : Ap z TI TO its ks) (h : ∀ (j : Nat) (c : Zs), cs[j]? = some c → its[j]? = some c.it ∧ ∃ q, ks[j]? = some q ∧ c.l = q.2) : Apart z TI TO cs := by
  have hm : ∀ c ∈ cs, c.it ∈ its ∧ ∃ q ∈ ks, c.l = q.2 := fun c hc => by
    obtain ⟨j, hj⟩ := List.mem_iff_getElem?.mp hc
    obtain ⟨a, q, b, d⟩ := h j c hj
    exact ⟨List.mem_of_getElem? a, q, List.mem_of_getElem? b, d⟩
  refine ⟨D.tz, D.oz, D.to, fun c hc => D.i _ (hm c hc).1, fun i j c d hc hd e => D.nd i j _ _ (h i c hc).1 (h j d hd).1 e, fun c hc => ?_⟩
  obtain ⟨_, q, hq, e⟩ := hm c hc
  rw [e]
  exact ⟨(D.l q hq).1, (D.l q hq).2.1, fun d hd => (D.l q hq).2.2 _ (hm d hd).1⟩
theorem turn_zs {P : Program} {w : World} {K : PySem.W.Frag} {elts : List Expr} {kk : Nat} {tpos : Pos} {z TI TO : Addr} {its : List Addr} {ks : List (Bool × Addr)} (D : Ap z TI TO its ks) (hl : its.length = ks.length) (hne : ks ≠ []) (hn : ks.length ≤ 100) :
    Turn P w K (.Tuple elts kk tpos) (ItzN K ks) (z :: TI :: TO :: its) z (fun i h => IsZip h z TI TO .none ∧ IsT h TI (its.map Value.ref) ∧ (∃ ts, ts.length = ks.length ∧ IsT h TO ts) ∧ ∀ (j : Nat) (q : Bool × Addr) (it : Addr), ks[j]? = some q → its[j]? = some it → SrcI h i q.1 it q.2) where
  mem := by simp
  obj := fun i h st c hc => by
    obtain ⟨hz, hTI, ⟨ts, _, hTO⟩, hi⟩ := st
    rcases List.mem_cons.mp hc with q | hc
    · rw [q]; exact ⟨_, hz, fun v q => nomatch q⟩
    rcases List.mem_cons.mp hc with q | hc
    · rw [q]; exact ⟨_, hTI, fun v q => nomatch q⟩
    rcases List.mem_cons.mp hc with q | hc
    · rw [q]; exact ⟨_, hTO, fun v q => nomatch q⟩
    obtain ⟨j, hj⟩ := List.mem_iff_getElem?.mp hc
    have hjl : j < ks.length := by
      have := (List.getElem?_eq_some_iff.mp hj).1
      omega
    have q := hi j _ c (List.getElem?_eq_getElem hjl) hj
    generalize ks[j] = kq at q
    obtain ⟨b, a⟩ := kq
    cases b with
    | true => obtain ⟨o, e, _, d⟩ := q; exact ⟨o, e, fun v q => by rw [d] at q; cases q⟩
    | false => obtain ⟨o, e, _, d⟩ := q; exact ⟨o, e, fun v q => by rw [d] at q; cases q⟩
  keep := fun i h h' st k => by
    obtain ⟨hz, hTI, ⟨ts, ht, hTO⟩, hi⟩ := st
    refine ⟨k z (by simp) _ hz, k TI (by simp) _ hTI, ⟨ts, ht, k TO (by simp) _ hTO⟩, fun j q it h1 h2 => ?_⟩
    have r := hi j q it h1 h2
    have hm : it ∈ z :: TI :: TO :: its := by simp [List.mem_of_getElem? h2]
    obtain ⟨b, a⟩ := q
    cases b with
    | true => obtain ⟨o, e, d⟩ := r; exact ⟨o, k it hm _ e, d⟩
    | false => obtain ⟨o, e, d⟩ := r; exact ⟨o, k it hm _ e, d⟩
  item := by
    intro X hP hw hK hc i pins s σ H E I hf st hg
    subst hP hw hK
    obtain ⟨hz, hTI, ⟨ts, ht, hTO⟩, hi⟩ := st
    obtain ⟨cs, hcl, hcs⟩ := srcs_at I hl hi fun j q h => by
      obtain ⟨xs, x, a, _⟩ := hg j q h
      exact ⟨xs, a⟩
    have hcit : ∀ (j : Nat) (c : Zs), cs[j]? = some c → its[j]? = some c.it := fun j c h => by
      obtain ⟨q, xs, us, a, b, _⟩ := hcs j c h
      exact b
    have er := refs_of (hcl.trans hl.symm) hcit
    have DA : Apart z TI TO cs := D.to' fun j c h => by
      obtain ⟨q, xs, us, a, b, e, _⟩ := hcs j c h
      exact ⟨b, q, a, e⟩
    rw [← er] at hTI
    have cne : cs ≠ [] := fun e => by
      rw [e] at hcl
      exact hne (List.length_eq_zero_iff.mp hcl.symm)
    have hzl : z < s.heap.objs.size := Heap.lt_size hz
    have cmem : ∀ c ∈ cs, ∃ (j : Nat), cs[j]? = some c := fun c h => List.mem_iff_getElem?.mp h
    refine pyNext_zs (k := i) (I.ok.hd hc) DA cne (by omega) hz hTI hTO (ht.trans hcl.symm) (fun c h => ?_) (fun vs h' hvl hv z' TO' sr hT stays => ?_) (fun c h hx => ?_)
    · obtain ⟨j, hj⟩ := cmem c h
      obtain ⟨q, xs, us, _, _, _, _, _, _, z⟩ := hcs j c hj
      exact z
    · refine ⟨_, rfl, wpAny_letOwnedTupleGo_zip (s := { s with heap := h' }) z' fun h'' z'' sb => ?_⟩
      have hT2 : IsT h'' s.heap.objs.size vs := (sb.2 _ (Nat.ne_of_gt hzl)).trans hT
      obtain ⟨ws, hwl, hws⟩ : ∃ ws : List V, ws.length = ks.length ∧ ∀ (j : Nat) (x : V), ws[j]? = some x → ∃ q xs u, ks[j]? = some q ∧ SqK X.K H q.1 q.2 xs ∧ xs[i]? = some x ∧ vs[j]? = some u ∧ RelV x u := by
        refine list_of ks.length fun j hj => ?_
        have e3 := List.getElem?_eq_getElem (show j < cs.length by omega)
        obtain ⟨q, xs, us, a, _, _, sq, rv, ex, _⟩ := hcs j _ e3
        obtain ⟨xs2, x, sq2, hx⟩ := hg j q a
        rw [seq_inj I sq2 sq] at hx
        obtain ⟨u, hu, ru⟩ := rv.get hx
        refine ⟨x, q, xs, u, a, sq, hx, ?_, ru⟩
        rw [← hv j _ e3, ex]
        simpa using hu
      have rws : Vals ws vs := paired_of (by omega) fun j x u h1 h2 => by
        obtain ⟨q, xs, u', _, _, _, hu, ru⟩ := hws j x h1
        rw [h2] at hu
        cases hu
        exact ru
      have new : ObjOk X.prog X.w (upd H s.heap.objs.size (.tup ws)) h'' s.heap.objs.size (.tup ws) :=
        ⟨by rw [hwl, sizeLine_eq]; omega, vs, rws, ⟨_, hT2, rfl, _, rfl⟩⟩
      have hmz : ∀ a, a ∉ z :: TI :: TO :: its → a ≠ z ∧ a ≠ TI ∧ a ≠ TO ∧ ∀ c ∈ cs, a ≠ c.it := fun a ha => by
        simp only [List.mem_cons, not_or] at ha
        refine ⟨ha.1, ha.2.1, ha.2.2.1, fun c hc e => ?_⟩
        obtain ⟨j, hj⟩ := cmem c hc
        exact ha.2.2.2 (e ▸ List.mem_of_getElem? (hcit j c hj))
      have I1 : Inv X pins σ (upd H s.heap.objs.size (.tup ws)) { s with heap := h'' } :=
        I.turnedNew (t' := s.toks) (ch := z :: TI :: TO :: its) (fun a o hb q => by
          obtain ⟨b1, b2, b3, b4⟩ := hmz a hb
          exact (sb.2 a b1).trans (stays a o b1 b3 b4 q)) hf (Nat.le_refl _) new
      refine ⟨.ref s.heap.objs.size, _, I1, rfl, ⟨_, ws, rfl, I.hok.fresh (Nat.le_refl _), rfl, hwl, fun j q xs h1 h2 => ?_⟩, ⟨z'', ?_, ⟨vs, by omega, ?_⟩, fun j q it h1 h2 => ?_⟩, fun c hcm => ?_⟩
      · have e3 := List.getElem?_eq_getElem (show j < ws.length by have := (List.getElem?_eq_some_iff.mp h1).1; omega)
        obtain ⟨q2, xs2, u, a, b, d, _, _⟩ := hws j _ e3
        rw [h1] at a
        cases a
        rw [seq_inj I h2 b]
        exact ⟨_, d, e3⟩
      · rw [← er]
        exact (sb.2 _ D.tz).trans (stays _ _ D.tz D.to (fun c hc => (DA.i c hc).2.1.symm) hTI)
      · exact (sb.2 _ D.oz).trans TO'
      · have hjl : j < cs.length := by have := (List.getElem?_eq_some_iff.mp h1).1; omega
        have e3 := List.getElem?_eq_getElem hjl
        have hci := hcit j _ e3
        rw [h2] at hci
        cases hci
        have e4 := sr _ (List.mem_of_getElem? e3)
        obtain ⟨q2, xs2, us2, a1, a2, a3, a4, a5, a6, a7⟩ := hcs j _ e3
        rw [h1] at a1
        cases a1
        have ni := (DA.i _ (List.mem_of_getElem? e3)).1
        obtain ⟨b, l⟩ := q
        have hri := hi j (b, l) _ h1 h2
        cases b with
        | true =>
          rcases e4 with ⟨x1, x2⟩ | ⟨x1, x2⟩
          · rw [a3] at x1
            exact x1.at fun o q => (sb.2 _ ni).trans q
          · exfalso
            obtain ⟨its', _, p, _⟩ := I.list (show SqL X.K H l xs2 from a4)
            obtain ⟨o1, y1, y2, _⟩ := p.isList
            obtain ⟨o2, y3, y4, _⟩ := x2
            rw [a3] at y3
            have hle := DA.l _ (List.mem_of_getElem? e3)
            rw [a3] at hle
            rw [stays _ _ hle.1 hle.2.1 hle.2.2 y1] at y3
            cases y3
            rw [y2] at y4
            exact absurd y4 (by simp)
        | false =>
          rcases e4 with ⟨x1, x2⟩ | ⟨x1, x2⟩
          · exfalso
            obtain ⟨its', _, p, _⟩ := I.tuple (show SqT X.K H l xs2 from a4)
            obtain ⟨o1, y1, y2, _⟩ := p
            obtain ⟨o2, y3, y4, _⟩ := x2
            rw [a3] at y3
            have hle := DA.l _ (List.mem_of_getElem? e3)
            rw [a3] at hle
            rw [stays _ _ hle.1 hle.2.1 hle.2.2 y1] at y3
            cases y3
            rw [y2] at y4
            exact absurd y4 (by simp)
          · rw [a3] at x1
            exact x1.at fun o q => (sb.2 _ ni).trans q
      · have hlt : c < s.heap.objs.size := by
          rcases List.mem_cons.mp hcm with q | hc
          · rw [q]; exact hzl
          rcases List.mem_cons.mp hc with q | hc
          · rw [q]; exact Heap.lt_size hTI
          rcases List.mem_cons.mp hc with q | hc
          · rw [q]; exact Heap.lt_size hTO
          obtain ⟨j, hj⟩ := List.mem_iff_getElem?.mp hc
          have hjl : j < ks.length := by have := (List.getElem?_eq_some_iff.mp hj).1; omega
          have q := hi j _ c (List.getElem?_eq_getElem hjl) hj
          generalize ks[j] = kq at q
          obtain ⟨b, a⟩ := kq
          cases b with
          | true => obtain ⟨o, e, _⟩ := q; exact Heap.lt_size e
          | false => obtain ⟨o, e, _⟩ := q; exact Heap.lt_size e
        rw [upd_ne (Nat.ne_of_lt hlt)]
        exact (hf c hcm).1
    · exfalso
      obtain ⟨j, hj⟩ := cmem c h
      obtain ⟨q, xs, us, a, _, _, sq, rv, ex, _⟩ := hcs j c hj
      obtain ⟨xs2, x, sq2, hx2⟩ := hg j q a
      rw [seq_inj I sq2 sq] at hx2
      obtain ⟨u, hu, ru⟩ := rv.get hx2
      rw [ex] at hx
      simp only [List.getElem?_toArray] at hx
      rw [hu] at hx
      cases hx
  done := by
    intro X hP hw hK hc i pins s σ H E I hf st hg
    subst hP hw hK
    obtain ⟨hz, hTI, ⟨ts, ht, hTO⟩, hi⟩ := st
    obtain ⟨hall, j0, q0, xs0, hj0, sq0, hle0⟩ := hg
    obtain ⟨cs, hcl, hcs⟩ := srcs_at I hl hi hall
    have hcit : ∀ (j : Nat) (c : Zs), cs[j]? = some c → its[j]? = some c.it := fun j c h => by
      obtain ⟨q, xs, us, a, b, _⟩ := hcs j c h
      exact b
    have er := refs_of (hcl.trans hl.symm) hcit
    have DA : Apart z TI TO cs := D.to' fun j c h => by
      obtain ⟨q, xs, us, a, b, e, _⟩ := hcs j c h
      exact ⟨b, q, a, e⟩
    rw [← er] at hTI
    have cne : cs ≠ [] := fun e => by
      rw [e] at hcl
      exact hne (List.length_eq_zero_iff.mp hcl.symm)
    have cmem : ∀ c ∈ cs, ∃ (j : Nat), cs[j]? = some c := fun c h => List.mem_iff_getElem?.mp h
    refine pyNext_zs (k := i) (I.ok.hd hc) DA cne (by omega) hz hTI hTO (ht.trans hcl.symm) (fun c h => ?_) (fun vs h' hvl hv z' TO' sr hT stays => ?_) (fun c h hx h' stays => ⟨rfl, ?_⟩)
    · obtain ⟨j, hj⟩ := cmem c h
      obtain ⟨q, xs, us, _, _, _, _, _, _, z⟩ := hcs j c hj
      exact z
    · exfalso
      have hjl : j0 < cs.length := by have := (List.getElem?_eq_some_iff.mp hj0).1; omega
      have e3 := List.getElem?_eq_getElem hjl
      obtain ⟨q2, xs2, us2, a1, a2, a3, a4, a5, a6, a7⟩ := hcs j0 _ e3
      rw [hj0] at a1
      cases a1
      have hlen := a5.length
      rw [seq_inj I a4 sq0] at hlen
      have e5 := hv j0 _ e3
      rw [a6, List.getElem?_toArray, List.getElem?_eq_none_iff.mpr (by omega), List.getElem?_eq_getElem (show j0 < vs.length by omega)] at e5
      cases e5
    · refine I.turnedL (t' := s.toks) (ch := z :: TI :: TO :: its) (fun a o ha q => ?_) hf
      simp only [List.mem_cons, not_or] at ha
      refine stays a o ha.1 ha.2.2.1 (fun c hc e => ?_) q
      obtain ⟨j, hj⟩ := cmem c hc
      exact ha.2.2.2 (e ▸ List.mem_of_getElem? (hcit j c hj))
  self := fun A i s Q E st h => wpAny_pyIter_zip st.1 h
def iZipN (K : PySem.W.Frag) (ta : TA) : TI := fun σ H R => ta σ H fun vs H1 => ∃ ks : List (Bool × Addr), vs = ks.map (fun q => V.ref q.2) ∧ (ks.length = 2 ∨ ks.length = 3) ∧ (∀ q ∈ ks, ∃ xs, SqK K H1 q.1 q.2 xs) ∧ R (ItzN K ks) H1
theorem vals_refs : ∀ {ks : List (Bool × Addr)} {us : List Value}, Vals (ks.map (fun q => V.ref q.2)) us → us = ks.map fun q => Value.ref q.2
  | [], _, .nil => rfl
  | q :: ks, _, .cons r t => by
    cases r
    rw [vals_refs t]
    rfl
theorem few_of : ∀ {us : List Value}, us.length = 2 ∨ us.length = 3 → Few us
  | [a, b], _ => few2 a b
  | [a, b, c], _ => few3 a b c
  | [], h => by simp at h
  | [a], h => by simp at h
  | _ :: _ :: _ :: _ :: _, h => by simp at h
theorem pi_zipN {X : Cx} {e : Expr} {es : List Expr} {ta : TA} {p pos tpos : Pos} {elts : List Expr} {kk : Nat} (hg : Gl X "zip") (hm : X.mg "zip" = none) (ha : PA X (e :: es) ta)
    (hs : starEach (e :: es) X.env = (false, eval e X.env) :: starEach es X.env := by rfl) (hpl : (backTo pos (starEach es X.env)).any (·.1) = false := by rfl) :
    PI X (.Tuple elts kk tpos) (.Call (.Name "zip" p) (e :: es) [] pos) (iZipN X.K ta) := by
  refine ⟨fun pins s σ H R I h => ?_⟩
  refine Call_ (ld_blt I hg hm PyProof.Rows.boot_zip (PyProof.Rows.callWith_type1 (thn (ha.run pos pins s σ H _ I h) fun us s1 ⟨vs, H1, I1, r1, q1⟩ => ?_) hs hpl))
  obtain ⟨ks, ex, hks, hsq, q1⟩ := q1
  subst ex
  have eu := vals_refs r1
  subst eu
  obtain ⟨ls, hll, hls⟩ : ∃ ls : List (Addr × Array Value), ls.length = ks.length ∧ ∀ (j : Nat) (l : Addr × Array Value), ls[j]? = some l → ∃ q, ks[j]? = some q ∧ l.1 = q.2 ∧ Shp q.1 s1.heap l.1 l.2 := by
    refine list_of ks.length fun j hj => ?_
    have e1 := List.getElem?_eq_getElem hj
    generalize ks[j] = q at e1
    obtain ⟨xs, hx⟩ := hsq q (List.mem_of_getElem? e1)
    obtain ⟨us, rv, hs⟩ := seq_at I1 hx
    obtain ⟨b, a⟩ := q
    exact ⟨(a, us.toArray), (b, a), e1, rfl, hs⟩
  have em : (ks.map fun q => Value.ref q.2) = ls.map fun q => Value.ref q.1 := List.ext_getElem? fun j => by
    rw [List.getElem?_map, List.getElem?_map]
    cases hc : ls[j]? with
    | none =>
      rw [List.getElem?_eq_none_iff] at hc
      rw [List.getElem?_eq_none_iff.mpr (by omega)]
      rfl
    | some c =>
      obtain ⟨q, a, b, _⟩ := hls j c hc
      rw [a]
      show some (Value.ref q.2) = some (Value.ref c.1)
      rw [b]
  have lt : ∀ l ∈ ls, l.1 < s1.heap.objs.size := fun l hl => by
    obtain ⟨j, hj⟩ := List.mem_iff_getElem?.mp hl
    obtain ⟨⟨b, a⟩, _, _, d⟩ := hls j l hj
    cases b with
    | true => obtain ⟨o, e, _⟩ := d; exact Heap.lt_size e
    | false => obtain ⟨o, e, _⟩ := d; exact Heap.lt_size e
  rw [em]
  refine call_zs (few_of (by rw [List.length_map, hll]; exact hks)) (by omega) (fun l hl => ?_) fun h' cs ecs hz hTI hTO hsr hk => wpAny_pyIter_zip hz ?_
  · obtain ⟨j, hj⟩ := List.mem_iff_getElem?.mp hl
    obtain ⟨⟨b, a⟩, _, _, d⟩ := hls j l hj
    cases b with
    | true => exact .inl d
    | false => exact .inr d
  have I2 : L2.Inv X pins σ H1 { s1 with heap := h' } := I1.kept (t' := s1.toks) hk
  have hcl : cs.length = ks.length := by rw [ecs, made_len, hll]
  have AP := made_apart (h := s1.heap) lt
  rw [← ecs] at AP
  have er : refsOf cs = (cs.map (·.it)).map Value.ref := by
    unfold refsOf
    rw [List.map_map]
    rfl
  have hat : ∀ (j : Nat) (c : Zs), cs[j]? = some c → c.it = s1.heap.objs.size + j ∧ ∃ q, ks[j]? = some q ∧ c.l = q.2 ∧ Shp q.1 s1.heap c.l c.xs := fun j c hc => by
    rw [ecs] at hc
    obtain ⟨a, l, b, d, f⟩ := made_get hc
    obtain ⟨q, x1, x2, x3⟩ := hls j l b
    refine ⟨a, q, x1, d.trans x2, ?_⟩
    rw [d, f]
    exact x3
  have APk : Ap (s1.heap.objs.size + ls.length + 2) (s1.heap.objs.size + ls.length) (s1.heap.objs.size + ls.length + 1) (cs.map (·.it)) ks := by
    refine ⟨AP.tz, AP.oz, AP.to, fun a ha => ?_, fun i j a b h1 h2 e => ?_, fun q hq => ?_⟩
    · obtain ⟨c, hc, rfl⟩ := List.mem_map.mp ha
      exact AP.i c hc
    · rw [List.getElem?_map, Option.map_eq_some_iff] at h1 h2
      obtain ⟨c, hc, rfl⟩ := h1
      obtain ⟨d, hd, rfl⟩ := h2
      exact AP.nd i j c d hc hd e
    · obtain ⟨j, hj⟩ := List.mem_iff_getElem?.mp hq
      have e3 := List.getElem?_eq_getElem (show j < cs.length by have := (List.getElem?_eq_some_iff.mp hj).1; omega)
      obtain ⟨_, q2, a, b, _⟩ := hat j _ e3
      rw [hj] at a
      cases a
      have r := AP.l _ (List.mem_of_getElem? e3)
      rw [b] at r
      refine ⟨r.1, r.2.1, fun a ha => ?_⟩
      obtain ⟨c, hc, rfl⟩ := List.mem_map.mp ha
      exact r.2.2 c hc
  have kne : ks ≠ [] := fun e => by
    rw [e] at hks
    simp at hks
  refine ⟨s1.heap.objs.size + ls.length + 2, (s1.heap.objs.size + ls.length + 2) :: (s1.heap.objs.size + ls.length) :: (s1.heap.objs.size + ls.length + 1) :: cs.map (·.it), _, _, H1, rfl, I2,
    turn_zs APk (by rw [List.length_map, hcl]) kne (by omega), ⟨hz, by rw [← er]; exact hTI, ⟨_, by rw [List.length_map, hcl], hTO⟩, fun j q it h1 h2 => ?_⟩, fun c hc => ?_, q1⟩
  · rw [List.getElem?_map, Option.map_eq_some_iff] at h2
    obtain ⟨c, hc, rfl⟩ := h2
    have sr := hsr c (List.mem_of_getElem? hc)
    obtain ⟨_, q2, a, b, d⟩ := hat j c hc
    rw [h1] at a
    cases a
    obtain ⟨kb, l⟩ := q
    cases kb with
    | true =>
      rcases sr with ⟨x1, x2⟩ | ⟨x1, x2⟩
      · rw [b] at x1
        exact x1
      · exfalso
        obtain ⟨o1, y1, y2, _⟩ := d
        obtain ⟨o2, y3, y4, _⟩ := x2
        rw [hk _ _ y1] at y3
        cases y3
        rw [y2] at y4
        exact absurd y4 (by simp)
    | false =>
      rcases sr with ⟨x1, x2⟩ | ⟨x1, x2⟩
      · exfalso
        obtain ⟨o1, y1, y2, _⟩ := d
        obtain ⟨o2, y3, y4, _⟩ := x2
        rw [hk _ _ y1] at y3
        cases y3
        rw [y2] at y4
        exact absurd y4 (by simp)
      · rw [b] at x1
        exact x1
  · have hle : s1.heap.objs.size ≤ c := by
      rcases List.mem_cons.mp hc with z | hc
      · rw [z]; exact Nat.le_trans (Nat.le_add_right _ _) (Nat.le_add_right _ _)
      rcases List.mem_cons.mp hc with z | hc
      · rw [z]; exact Nat.le_add_right _ _
      rcases List.mem_cons.mp hc with z | hc
      · rw [z]; exact Nat.le_trans (Nat.le_add_right _ _) (Nat.le_add_right _ _)
      obtain ⟨c', hc', rfl⟩ := List.mem_map.mp hc
      obtain ⟨j, hj⟩ := List.mem_iff_getElem?.mp hc'
      rw [(hat j c' hj).1]
      exact Nat.le_add_right _ _
    exact I1.fpOk hle (I1.hok.fresh hle)
end
end ZN

/-! DLw: zip, extend, sorted ints, a, b = a list, comprehensions over i, (j, k). -/
namespace DL
open PySem PySem.Spec PyProof.Rows L2
/-! ### extend -/
def fExtend : D1N := fun x ds κ Q => match x, ds with
  | .cell n, [.node .lst ys] => ∃ xs, κ n = some (.live .lst xs) ∧ xs.length + ys.length ≤ sizeLine ∧ Q .non (kset κ n (.live .lst (xs ++ ys)))
  | _, _ => False
theorem sim_extend {C : Ctx} : Sim1N C fExtend rExtend := by
  intro F ρ κ H x v ds vs QD Q S rx rd h P
  match x, ds, h with
  | .cell n, [.node .lst ys], ⟨xs, h1, h2, h3⟩ =>
    obtain ⟨a, ws, rfl, h4, h5, h6, h7⟩ := cell_lst S rx h1
    obtain ⟨w, rfl, rw'⟩ := repL1 rd
    cases rw' with
    | @node _ _ b us hk rl =>
      have hb : H b = some (.lst us) := S.sub _ _ hk
      exact ⟨a, b, ws, us, rfl, rfl, h5, hb, by rw [← h6.length, ← rl.length]; exact h2, P _ _ _ _ _ _ (Ext.refl _ _) (h7 _ _ (h6.append rl)) .non h3⟩
section
variable {X : Cx} {W : WX} {o e : Expr} {es : List Expr} {a : DE} {as : DA} {apos cpos : Pos}
theorem pd_extend (ho : PED X W o a) (ha : PAD X W (e :: es) as) (hbase : attributeBase o "extend" X.env (eval o X.env) = eval o X.env := by rfl)
    (hfew : ((backTo cpos (starEach (e :: es) X.env)).all (fun x => !x.1) && (backToKw cpos (keywordEach [] X.env)).all (fun x => x.1.isSome) && decide ((e :: es).length + ([] : List Keyword).length + (if ([] : List Keyword).isEmpty then 0 else 1) < 30)) = true := by rfl)
    (hline : (apos.endLine == cpos.line) = true := by rfl) (hs : starEach (e :: es) X.env = (false, eval e X.env) :: starEach es X.env := by rfl) (hplain : (backTo cpos (starEach es X.env)).any (·.1) = false := by rfl) :
    PED X W (.Call (.Attribute o "extend" apos) (e :: es) [] cpos) (dBM "list" fExtend a as) :=
  pe_weak (pe_bm PySem.F.plainAttrs_list PySem.F.slot_list_extend PySem.F.type_list_extend mt_extend ho ha hbase hfew hline hs hplain) fun _ _ _ => lift_bm sim_extend
end
/-! ### sorted -/
theorem RepL.intsV {C : Ctx} {F : Hp} {ρ : Loc0} : ∀ {ns : List Int} {vs : List V}, RepL C F ρ (ns.map D.int) vs → vs = ns.map V.int
  | [], _, .nil => rfl
  | _ :: _, _, .cons h t => by
    cases h
    rw [RepL.intsV t]
    rfl
def fSortI : DN := fun xs κ Q => match xs with
  | [d] => ∃ ns : List Int, view d κ = some (.lst, ns.map D.int) ∧ ∀ ns' : List Int, ns'.Perm ns → ns'.Pairwise (· ≤ ·) → Q (.node .lst (ns'.map D.int)) κ
  | _ => False
theorem sim_sortI {C : Ctx} : SimN C fSortI (rSortedI C.K) := by
  intro F ρ κ H xs vs QD Q S r h P
  match xs, h with
  | [d], ⟨ns, h1, h2⟩ =>
    obtain ⟨v, rfl, rv⟩ := repL1 r
    obtain ⟨a, ws, rfl, hk, rl⟩ := view_at S rv h1
    have e := rl.intsV
    subst e
    refine ⟨a, ns, rfl, SqL.of hk, fun ns' p hp hs hn => ?_⟩
    obtain ⟨ex, S2⟩ := S.laid (p := p) (o := .lst (ns'.map V.int)) hn
    exact P _ _ _ _ _ _ ex S2 (.node (k := .lst) upd_same RepL.ofInts) (h2 ns' hp hs)
/-! ### a, b = a list -/
def gLstD (n : Nat) (g : DGs) : DG := fun d δ κ X Q => ∃ xs, view d κ = some (.lst, xs) ∧ xs.length = n ∧ g xs δ κ X Q
theorem pg_lstD {X : Cx} {W : WX} {es : List Expr} {r : DGs} {pos : Pos} {n : Nat} {kk : Nat} (hc : X.calm = true) (h : PGsD X W es r) (hn : (assignEach es X.env).length = n := by rfl) (hst : (assignEach es X.env).findIdx? (·.1) = none := by rfl) : PGD X W (.Tuple es kk pos) (gLstD n r) :=
  pg_weak (pg_lst (k := kk) hc h hn hst) fun v σ H Q ⟨F, ρ, κ, δ, d, XD, QD, S, R, rr, ⟨xs, h1, h2, h3⟩, P, PX⟩ => by
  obtain ⟨a, vs, rfl, hk, rl⟩ := view_at S rr h1
  exact ⟨a, vs, rfl, SqL.of hk, by rw [← rl.length]; exact h2, F, ρ, κ, δ, xs, XD, _, S, R, rl, h3, P, PX⟩
/-! ### zip -/
def zipK : Kd → Option Bool
  | .lst => some true
  | .tup => some false
  | _ => none
/-- what a zip tells: rows as long as there are things in all -/
def rowsD (yss : List (List D)) (i : Nat) : List D := yss.filterMap (·[i]?)
def zipD (yss : List (List D)) (n : Nat) : List D := (List.range n).map fun i => .node .tup (rowsD yss i)
def zQ (QI : List D → (Kap → Prop) → Kap → Prop) (xs : List D) (κ : Kap) : Prop := (xs.length = 2 ∨ xs.length = 3) ∧ ∃ (ks : List (Kd × Bool)) (yss : List (List D)) (n : Nat), ks.length = xs.length ∧ yss.length = xs.length ∧
  (∀ (j : Nat) (x : D), xs[j]? = some x → ∃ k b ys, ks[j]? = some (k, b) ∧ zipK k = some b ∧ yss[j]? = some ys ∧ n ≤ ys.length ∧ view x κ = some (k, ys)) ∧ (∃ ys ∈ yss, ys.length = n) ∧
  QI (zipD yss n) (fun κ' => ∀ (j : Nat) (x : D), xs[j]? = some x → view x κ' = view x κ) κ
def iZipD (as : DA) : DI := fun δ κ X QI => as δ κ X (zQ QI)
theorem rows_get : ∀ {yss : List (List D)} {i : Nat}, (∀ ys ∈ yss, i < ys.length) → (rowsD yss i).length = yss.length ∧ ∀ (j : Nat) (ys : List D), yss[j]? = some ys → ∃ y, ys[i]? = some y ∧ (rowsD yss i)[j]? = some y
  | [], _, _ => ⟨rfl, fun j ys h => by simp at h⟩
  | zs :: yss, i, h => by
    have hz := h zs List.mem_cons_self
    obtain ⟨ih1, ih2⟩ := rows_get (yss := yss) (i := i) fun ys hy => h ys (List.mem_cons_of_mem _ hy)
    have e : rowsD (zs :: yss) i = zs[i] :: rowsD yss i := by
      unfold rowsD
      rw [List.filterMap_cons, List.getElem?_eq_getElem hz]
    rw [e]
    refine ⟨by rw [List.length_cons, List.length_cons, ih1], fun j ys hj => ?_⟩
    cases j with
    | zero =>
      cases hj
      exact ⟨_, List.getElem?_eq_getElem hz, rfl⟩
    | succ j => exact ih2 j ys hj
theorem repL_of {C : Ctx} {F : Hp} {ρ : Loc0} : ∀ {ds : List D} {vs : List V}, ds.length = vs.length → (∀ (j : Nat) (d : D) (v : V), ds[j]? = some d → vs[j]? = some v → Rep C F ρ d v) → RepL C F ρ ds vs
  | [], [], _, _ => .nil
  | [], _ :: _, h, _ => by simp at h
  | _ :: _, [], h, _ => by simp at h
  | d :: ds, v :: vs, h, p => .cons (p 0 d v rfl rfl) (repL_of (by simpa using h) fun j x y h1 h2 => p (j + 1) x y h1 h2)
theorem hold_sq {C : Ctx} {H : Hp} {k : Kd} {b : Bool} {a : Addr} {vs : List V} (hb : zipK k = some b) (h : HoldK C H k a vs) : ZN.SqK C.K H b a vs := by
  cases k <;> first | (cases hb; exact SqL.of h) | (cases hb; exact h) | cases hb
section
variable {X : Cx} {W : WX} {e : Expr} {es : List Expr} {as : DA} {p pos tpos : Pos} {elts : List Expr} {kk : Nat}
theorem pi_zipD (hm : X.mg "zip" = none) (ha : PAD X W (e :: es) as) (hg : Gl X "zip" := by rfl) (hs : starEach (e :: es) X.env = (false, eval e X.env) :: starEach es X.env := by rfl) (hpl : (backTo pos (starEach es X.env)).any (·.1) = false := by rfl) :
    PID X W (.Tuple elts kk tpos) (.Call (.Name "zip" p) (e :: es) [] pos) (iZipD as) :=
  pi_weak (ZN.pi_zipN hg hm ha hs hpl) fun σ H R ⟨F, ρ, κ, δ, XD, QD, S, Rr, h, P, PX⟩ => ⟨F, ρ, κ, δ, XD, _, S, Rr, h, fun F1 ρ1 κ1 H1 xs vs e1 S1 R1 hz => by
    obtain ⟨hxl, kbs, yss, n, hkl, hyl, hall, ⟨y0, hy0, hy0n⟩, hq⟩ := hz
    have hvl := R1.length
    obtain ⟨ks, hksl, hks⟩ : ∃ ks : List (Bool × Addr), ks.length = xs.length ∧ ∀ (j : Nat) (q : Bool × Addr), ks[j]? = some q → vs[j]? = some (.ref q.2) ∧ ∃ x k ys, xs[j]? = some x ∧ zipK k = some q.1 ∧ yss[j]? = some ys ∧ n ≤ ys.length ∧ view x κ1 = some (k, ys) := by
      refine ZN.list_of xs.length fun j hj => ?_
      have e1' := List.getElem?_eq_getElem hj
      generalize xs[j] = x at e1'
      obtain ⟨k, b, ys, a1, a2, a3, a4, a5⟩ := hall j x e1'
      obtain ⟨v, hv, rv⟩ := R1.get e1'
      obtain ⟨a, ws, rfl, hk, rl⟩ := view_at S1 rv a5
      exact ⟨(b, a), hv, x, k, ys, e1', a2, a3, a4, a5⟩
    have ev : vs = ks.map fun q => V.ref q.2 := List.ext_getElem? fun j => by
      rw [List.getElem?_map]
      cases hc : ks[j]? with
      | none =>
        rw [List.getElem?_eq_none_iff] at hc
        rw [List.getElem?_eq_none_iff.mpr (by omega)]
        rfl
      | some q => exact (hks j q hc).1
    have now : ∀ {F' : Hp} {ρ' : Loc0} {κ' : Kap} {H' : Hp}, Ext F1 ρ1 F' ρ' → StR (CtxOf X) F' ρ' κ' H' → (∀ (j : Nat) (x : D), xs[j]? = some x → view x κ' = view x κ1) → ∀ (j : Nat) (q : Bool × Addr), ks[j]? = some q → ∃ ys ws, yss[j]? = some ys ∧ n ≤ ys.length ∧ ZN.SqK X.K H' q.1 q.2 ws ∧ RepL (CtxOf X) F' ρ' ys ws := fun ex St hg j q hj => by
      obtain ⟨b1, x, k, ys, b2, b3, b4, b5, b6⟩ := hks j q hj
      obtain ⟨v, hv, rv⟩ := (R1.ext ex).get b2
      rw [b1] at hv
      cases hv
      obtain ⟨a, ws, ea, hk, rl⟩ := view_at St rv ((hg j x b2).trans b6)
      cases ea
      exact ⟨ys, ws, b4, b5, hold_sq b3 hk, rl⟩
    refine ⟨ks, ev, by rw [hksl]; exact hxl, fun q hq' => ?_, P _ _ _ _ _ _ _ e1 S1 (fun F' ρ' κ' H' i ex St hg => ?_) hq⟩
    · obtain ⟨j, hj⟩ := List.mem_iff_getElem?.mp hq'
      obtain ⟨ys, ws, _, _, a, _⟩ := now (Ext.refl _ _) S1 (fun _ _ _ => rfl) j q hj
      exact ⟨ws, a⟩
    · have hzl : (zipD yss n).length = n := by
        unfold zipD
        rw [List.length_map, List.length_range]
      have big : ∀ ys ∈ yss, n ≤ ys.length := fun ys hy => by
        obtain ⟨j, hj⟩ := List.mem_iff_getElem?.mp hy
        have hjl : j < xs.length := by
          have := (List.getElem?_eq_some_iff.mp hj).1
          omega
        obtain ⟨k, b, ys2, _, _, a3, a4, _⟩ := hall j _ (List.getElem?_eq_getElem hjl)
        rw [hj] at a3
        cases a3
        exact a4
      refine ⟨fun hi => ?_, fun d hd => ?_⟩
      · rw [hzl] at hi
        refine ⟨fun j q hj => ?_, ?_⟩
        · obtain ⟨ys, ws, _, _, a, _⟩ := now ex St hg j q hj
          exact ⟨ws, a⟩
        · obtain ⟨j, hj⟩ := List.mem_iff_getElem?.mp hy0
          have hjl : j < ks.length := by
            have := (List.getElem?_eq_some_iff.mp hj).1
            omega
          have e3 := List.getElem?_eq_getElem hjl
          obtain ⟨ys, ws, a1, _, a2, a3⟩ := now ex St hg j _ e3
          rw [hj] at a1
          cases a1
          exact ⟨j, _, ws, e3, a2, by rw [← a3.length, hy0n, hi]; exact Nat.le_refl _⟩
      · have hin : i < n := by
          have := (List.getElem?_eq_some_iff.mp hd).1
          omega
        have ed : d = .node .tup (rowsD yss i) := by
          unfold zipD at hd
          rw [List.getElem?_map, List.getElem?_range hin] at hd
          cases hd
          rfl
        subst ed
        obtain ⟨r1, r2⟩ := rows_get (yss := yss) (i := i) fun ys hy => Nat.lt_of_lt_of_le hin (big ys hy)
        refine ⟨fun j q hj => ?_, fun x H2 hy => ?_⟩
        · obtain ⟨ys, ws, a1, a2, a3, a4⟩ := now ex St hg j q hj
          obtain ⟨y, hy, _⟩ := r2 j ys a1
          obtain ⟨w, hw, _⟩ := a4.get hy
          exact ⟨ws, w, a3, hw⟩
        · obtain ⟨T, ts, rfl, hT, rfl, htl, hts⟩ := hy
          obtain ⟨ex2, S2⟩ := St.laid (p := T) (o := .tup ts) hT
          refine ⟨_, ex2, S2, .node (k := .tup) (.inl (.inl upd_same)) (repL_of (by rw [r1, htl]; omega) fun j d2 v2 h1 h2 => ?_)⟩
          have hjl : j < ks.length := by
            have := (List.getElem?_eq_some_iff.mp h2).1
            omega
          have e3 := List.getElem?_eq_getElem hjl
          obtain ⟨ys, ws, a1, a2, a3, a4⟩ := now ex St hg j _ e3
          obtain ⟨y, hy, hr⟩ := r2 j ys a1
          rw [h1] at hr
          cases hr
          obtain ⟨w, hw, rw'⟩ := a4.get hy
          obtain ⟨u, hu, hv2⟩ := hts j _ ws e3 a3
          rw [hw] at hu
          cases hu
          rw [h2] at hv2
          cases hv2
          exact rw'.ext ex2, PX⟩
end
/-! ### comprehensions over i, (j, k) -/
def bindP (i j k : Nat) (d : D) (δ : DEnv) (κ : Kap) : Option DEnv := match view d κ with
  | some (.tup, [x, y]) => match view y κ with
    | some (.tup, [a, b]) => some (((δ.set i (some x)).set j (some a)).set k (some b))
    | _ => none
  | _ => none
def gvP (K : PySem.W.Frag) (i j k : Nat) : TG := gTup K 2 (gCons (gName i) (gCons (gTup K 2 (gvL [j, k])) gNil))
def lpLoop (n : Nat) (i j k : Nat) (e : DE) (gd : Kap → Prop) (vs : List Nat) (δ : DEnv) (fin : List D → Kap → Prop) : List D → List D → Kap → Prop
  | [], acc, κ => gd κ ∧ fin acc κ
  | d :: ds, acc, κ => gd κ ∧ ∃ δ1, bindP i j k d (dwipe δ vs) κ = some δ1 ∧ e δ1 κ XF fun y κ3 => κ3 n = some (.live .lst acc) ∧ acc.length < sizeLine ∧ lpLoop n i j k e gd vs δ fin ds (acc ++ [y]) (kset κ3 n (.live .lst (acc ++ [y])))
def dLp (m : Bool) (it : DI) (i j k : Nat) (e : DE) (vs : List Nat) : DE := fun δ κ X Q => it δ κ X fun items gd κ1 => ∀ n, κ1 n = none →
  lpLoop n i j k e gd vs δ (fun acc κ' => κ' n = some (.live .lst acc) ∧ if m = true then Q (.cell n) κ' else Q (.lst acc) (kset κ' n .dead)) items [] (kset κ1 n (.live .lst []))
theorem lp_gd {n : Nat} {i j k : Nat} {e : DE} {gd : Kap → Prop} {vs : List Nat} {δ : DEnv} {fin : List D → Kap → Prop} {ds acc : List D} {κ : Kap} (h : lpLoop n i j k e gd vs δ fin ds acc κ) : gd κ := by
  cases ds with
  | nil => exact h.1
  | cons d ds => exact h.1
theorem bindP_at {C : Ctx} {F : Hp} {ρ : Loc0} {κ : Kap} {H : Hp} {i j k : Nat} {d : D} {v : V} {δ δ' : DEnv} {σ : L2.St} {vs0 : List Nat} {σ0 : L2.St} {Q : L2.St → Hp → Prop} (S : StR C F ρ κ H) (hi : ∀ x ∈ [i, j, k], x ∈ vs0) (h : bindP i j k d δ κ = some δ') (R : RepS C F ρ δ σ) (r : Rep C F ρ d v) (hw : L2.wipe σ vs0 = σ0)
    (hq : ∀ σ', RepS C F ρ δ' σ' → L2.wipe σ' vs0 = σ0 → Q σ' H) : gvP C.K i j k v σ H Q := by
  have h' : (match view d κ with
    | some (.tup, [x, y]) => match view y κ with
      | some (.tup, [a, b]) => some (((δ.set i (some x)).set j (some a)).set k (some b))
      | _ => none
    | _ => none) = some δ' := h
  cases ev : view d κ with
  | none => rw [ev] at h'; cases h'
  | some p =>
    obtain ⟨kd, xs⟩ := p
    rw [ev] at h'
    cases kd <;> first | (cases h'; done) | skip
    match xs, h', ev with
    | [x, y], h', ev =>
      dsimp only at h'
      cases ev2 : view y κ with
      | none => rw [ev2] at h'; cases h'
      | some p2 =>
        obtain ⟨kd2, zs⟩ := p2
        rw [ev2] at h'
        cases kd2 <;> first | (cases h'; done) | skip
        match zs, h', ev2 with
        | [a, b], h', ev2 =>
          cases h'
          obtain ⟨q, vs, rfl, hk, rl⟩ := view_at S r ev
          obtain ⟨u1, u2, rfl, ru1, ru2⟩ := repL2 rl
          obtain ⟨q2, vs2, rfl, hk2, rl2⟩ := view_at S ru2 ev2
          obtain ⟨u3, u4, rfl, ru3, ru4⟩ := repL2 rl2
          have m1 := hi i (by simp)
          have m2 := hi j (by simp)
          have m3 := hi k (by simp)
          refine ⟨q, _, rfl, hk, rfl, _, _, rfl, _, _, rfl, q2, _, rfl, hk2, rfl, _, _, rfl, _, _, rfl, rfl, rfl, ?_⟩
          refine hq _ (((R.set ru1 i).set ru3 j).set ru4 k) ?_
          rw [wipe_set m3, wipe_set m2, wipe_set m1]
          exact hw
theorem lift_lp {C : Ctx} {W : WX} {m : Bool} {it : DI} {i0 j0 k0 : Nat} {e : DE} {vs : List Nat} {ttv : TT} {ev : TE} (ht : ∀ {σ H Q}, liftT C WF tYesD σ H Q → ttv σ H Q) (he : ∀ {σ H Q}, liftE C WF e σ H Q → ev σ H Q) (hi : ∀ x ∈ [i0, j0, k0], x ∈ vs)
    {σ : L2.St} {H : Hp} {Q : VK} (h : liftE C W (dLp m it i0 j0 k0 e vs) σ H Q) : tLc (liftI C W it) (gvP C.K i0 j0 k0) ttv ev vs σ H Q := by
  obtain ⟨F, ρ, κ, δ, XD, QD, S, R, h, P, PX⟩ := h
  refine ⟨F, ρ, κ, δ, XD, _, S, R, h, fun F1 ρ1 κ1 H1 J items gd e1 S1 hJ h1 D0 hD => ?_, PX⟩
  obtain ⟨n, hn⟩ := S1.fresh
  obtain ⟨ρ2, e2, hr2, S2⟩ := S1.cell (o := .lst []) (k := .lst) (vs := []) (xs := []) hD (fun _ q => q) .nil hn
  have h2 := h1 n hn
  refine ⟨fun i m H => ∃ F3 ρ3 κ3 acc, Ext F1 ρ2 F3 ρ3 ∧ StR C F3 ρ3 κ3 H ∧ i ≤ items.length ∧ m = items.length - i ∧ lpLoop n i0 j0 k0 e gd vs δ _ (items.drop i) acc κ3, ⟨_, F1, ρ2, _, [], Ext.refl _ _, S2, Nat.zero_le _, rfl, h2⟩, ?_⟩
  rintro i m' H ⟨F3, ρ3, κ3, acc, e3, S3, hi3, rfl, h3⟩
  have e23 := e2.trans e3
  have hr3 := e3.r _ _ hr2
  obtain ⟨q1, q2⟩ := hJ F3 ρ3 κ3 H i e23 S3 (lp_gd h3)
  by_cases hlt : i < items.length
  · obtain ⟨q3, q4⟩ := q2 _ (List.getElem?_eq_getElem hlt)
    rw [List.drop_eq_getElem_cons hlt] at h3
    obtain ⟨_, δ1, hb, h4⟩ := h3
    refine .inr ⟨q3, _, fun _ h => h, fun x H4 hy => ?_⟩
    obtain ⟨F4, e4, S4, R4⟩ := q4 x H4 hy
    have e34 := e23.trans e4
    refine bindP_at (σ0 := L2.wipe σ vs) S4 hi hb ((R.ext (e1.trans e34)).wipe vs) R4 (wipe_wipe fun _ h => h) fun σ5 R5 hw => ⟨hw, ht ⟨F4, ρ3, κ3, δ1, XF, fun b κ => b = true ∧ e δ1 κ XF _, S4, R5, ⟨rfl, h4⟩, fun F5 ρ5 κ5 H5 b e5 S5 h5 => ?_, fun _ _ _ _ _ _ _ _ _ _ _ _ _ _ h => h.elim⟩⟩
    have e45 := e34.trans e5
    obtain ⟨rfl, h5⟩ := h5
    show ev σ5 H5 _
    refine he ⟨F5, ρ5, κ5, δ1, XF, _, S5, R5.ext e5, h5, fun F6 ρ6 κ6 H6 y v e6 S6 R6 ⟨h6, h7, h8⟩ => ?_, fun _ _ _ _ _ _ _ _ _ _ _ _ _ _ h => h.elim⟩
    have e36 := (e3.trans e4).trans (e5.trans e6)
    obtain ⟨a, ws, g1, g2, g3, g4⟩ := S6.live n _ _ h6
    rw [e36.r _ _ hr2] at g1
    cases g1
    have g3' : H6 D0 = some (.lst ws) := g3
    refine ⟨ws, g3', by rw [← g4.length]; exact h7, items.length - (i + 1), by omega, F6, ρ6, _, _, e36, ?_, hlt, rfl, h8⟩
    exact S6.write (k' := .lst) h6 (e36.r _ _ hr2) (fun _ q => q) (g4.append (.cons R6 .nil))
  · have e : i = items.length := by omega
    subst e
    rw [List.drop_length] at h3
    obtain ⟨_, h4, h5⟩ := h3
    refine .inl ⟨q1 rfl, ?_⟩
    cases m with
    | true => exact P _ _ _ _ _ _ (e1.trans e23) S3 (.cell hr3) h5
    | false =>
      obtain ⟨F4, e4, r4, S4⟩ := S3.freeze h4 hr3
      exact P _ _ _ _ _ _ (e1.trans (e23.trans e4)) S4 r4 h5
section
variable {X : Cx} {W : WX} {elt tg iter : Expr} {it : DI} {a : DE} {pos : Pos} {k : Nat} {scope : Scope}
theorem pd_lp (m : Bool) (own : List (Str × Nat)) (i0 j0 k0 : Nat) (G : Good k X W) (hi : PID X W tg iter it) (hg : ∀ (s : Shared) (H : Hp) (C : Addr) (cl : List (Str × Addr)) (fp : List Addr), PG (X.blk s H scope (compEnvC scope cl C X.env) fp) tg (gvP X.K i0 j0 k0))
    (he : ∀ (s : Shared) (H : Hp) (C : Addr) (cl : List (Str × Addr)) (fp : List Addr), PED (X.blk s H scope (compEnvC scope cl C X.env) fp) WF elt a)
    (ok : blkC X.N X.env.scope scope own = true := by kernel_rfl) (hin : ∀ x ∈ [i0, j0, k0], x ∈ own.map (·.2) := by decide) (hs : ∀ x, foldedSetIterable iter X.env x = pure x := by intro _; rfl) :
    PED X W (.ListComp elt [⟨tg, iter, [], 0⟩] scope pos) (dLp m it i0 j0 k0 a (own.map (·.2))) := pe_weak (pe_lc G.calm G.nd hi (blkOk_by ok) hg (fun _ _ _ _ _ => pts_nilD) he hs) fun _ _ _ => lift_lp id id hin
end
end DL

/-! DOa: objects of own classes: made, their fields read and laid, their methods called. -/
namespace DL
open PySem PySem.Spec PyProof.Rows L2
/-! ### classes -/
structure ObC (K : PySem.W.Frag) (mg : Str → Option Value) (c : Str) (C : Addr) : Prop where
  m : mg c = some (.ref C)
  cl : Cls K C
/-- the class c has no attribute f of its own -/
def ObF (K : PySem.W.Frag) (mg : Str → Option Value) (c f : Str) : Prop := ∃ C, ObC K mg c C ∧ NoAttr K C f
def lookN : List Str → List D → Str → Option D
  | n :: ns, x :: xs, f => if f = n then some x else lookN ns xs f
  | _, _, _ => none
def putN (f : Str) : List Str → List Str
  | [] => [f]
  | g :: r => if g = f then g :: r else g :: putN f r
def putX (f : Str) (d : D) : List Str → List D → List D
  | g :: r, x :: xs => if g = f then d :: xs else x :: putX f d r xs
  | [], _ => [d]
  | _ :: _, [] => []
section
variable {C : Ctx} {F : Hp} {ρ : Loc0}
theorem lookN_at {f : Str} {d : D} : ∀ {fs : List (Str × V)} {xs : List D}, RepL C F ρ xs (fs.map (·.2)) → lookN (fs.map (·.1)) xs f = some d → ∃ v, fs.lookup f = some v ∧ Rep C F ρ d v
  | [], _, .nil, h => by cases h
  | (n, v) :: fs, x :: xs, .cons r t, h => by
    have h' : (if f = n then some x else lookN (fs.map (·.1)) xs f) = some d := h
    by_cases e : f = n
    · rw [if_pos e] at h'
      cases h'
      subst e
      exact ⟨v, by simp [List.lookup], r⟩
    · rw [if_neg e] at h'
      obtain ⟨u, h1, h2⟩ := lookN_at (fs := fs) t h'
      have e' : (f == n) = false := by simpa using e
      exact ⟨u, by simp [List.lookup, e', h1], h2⟩
theorem putF_fst (f : Str) (v : V) : ∀ fs : List (Str × V), (putF f v fs).map (·.1) = putN f (fs.map (·.1))
  | [] => rfl
  | (g, x) :: r => by
    show ((if g = f then (g, v) :: r else (g, x) :: putF f v r).map (·.1)) = if g = f then g :: r.map (·.1) else g :: putN f (r.map (·.1))
    by_cases e : g = f
    · rw [if_pos e, if_pos e]
      rfl
    · rw [if_neg e, if_neg e, List.map_cons, putF_fst f v r]
theorem putX_rep {f : Str} {d : D} {v : V} (rd : Rep C F ρ d v) : ∀ {fs : List (Str × V)} {xs : List D}, RepL C F ρ xs (fs.map (·.2)) → RepL C F ρ (putX f d (fs.map (·.1)) xs) ((putF f v fs).map (·.2))
  | [], _, .nil => .cons rd .nil
  | (g, u) :: fs, x :: xs, .cons r t => by
    show RepL C F ρ (if g = f then d :: xs else x :: putX f d (fs.map (·.1)) xs) ((if g = f then (g, v) :: fs else (g, u) :: putF f v fs).map (·.2))
    by_cases e : g = f
    · rw [if_pos e, if_pos e]
      exact .cons rd t
    · rw [if_neg e, if_neg e]
      exact .cons r (putX_rep rd t)
end
/-! ### fields -/
def dFld (c f : Str) (a : DE) : DE := fun δ κ X Q => a δ κ X fun x κ1 => ∃ ns xs d, view x κ1 = some (.obj c ns, xs) ∧ lookN ns xs f = some d ∧ Q d κ1
def sFldD (c f : Str) (v a : DE) : DS := fun δ κ X T => v δ κ X fun y κ1 => a δ κ1 X fun x κ2 => ∃ n ns xs, x = .cell n ∧ κ2 n = some (.live (.obj c ns) xs) ∧ ns.length < 1000 ∧ T.nx δ (kset κ2 n (.live (.obj c (putN f ns)) (putX f y ns xs)))
section
variable {X : Cx} {W : WX} {c f : Str} {e o : Expr} {a v : DE} {pos pos' : Pos}
theorem pd_fld (O : ObF X.K X.mg c f) (ha : PED X W e a) (hb : attributeBase e f X.env (eval e X.env) = eval e X.env := by rfl) : PED X W (.Attribute e f pos) (dFld c f a) :=
  pe_weak (pe_fld ha hb) fun σ H Q ⟨F, ρ, κ, δ, XD, QD, S, R, h, P, PX⟩ => by
  obtain ⟨C, hC, hN⟩ := O
  refine ⟨F, ρ, κ, δ, XD, _, S, R, h, fun F1 ρ1 κ1 H1 x w e1 S1 r1 ⟨ns, xs, d, h1, h2, h3⟩ => ?_, PX⟩
  obtain ⟨p, vs, rfl, ⟨ca, dx, fs, q1, q2, q3, q4⟩, rl⟩ := view_at S1 r1 h1
  have e2 := hC.m
  rw [show X.mg c = some (.ref ca) from q1] at e2
  cases e2
  subst q3 q4
  obtain ⟨u, l1, l2⟩ := lookN_at rl h2
  exact ⟨p, _, dx, fs, u, rfl, q2, hC.cl, hN, l1, P _ _ _ _ _ _ e1 S1 l2 h3⟩
theorem sd_fld (O : ObF X.K X.mg c f) (hv : PED X W e v) (ha : PED X W o a) (hs : swapsWith e (some (.Attribute o f pos')) pos.line X.env = pure false := by rfl) : PSD X W (.Assign [.Attribute o f pos'] e pos) (sFldD c f v a) :=
  ps_weak (ps_fld ha hv hs) fun T σ H ⟨F, ρ, κ, δ, XD, DD, S, R, h, P, PX⟩ => by
  obtain ⟨C, hC, hN⟩ := O
  refine ⟨F, ρ, κ, δ, XD, _, S, R, h, fun F1 ρ1 κ1 H1 y w e1 S1 r1 h1 => ?_, PX⟩
  refine ⟨F1, ρ1, κ1, δ, XD, _, S1, R.ext e1, h1, fun F2 ρ2 κ2 H2 x u e2 S2 r2 ⟨n, ns, xs, hx, hn, hl, q⟩ => ?_, PX.ext e1⟩
  subst hx
  obtain ⟨p, vs, rfl, hr, ⟨ca, dx, fs, q1, q2, q3, q4⟩, rl⟩ := cell_at S2 r2 hn
  have e3 := hC.m
  rw [show X.mg c = some (.ref ca) from q1] at e3
  cases e3
  subst q3 q4
  refine ⟨p, C, dx, fs, rfl, q2, hC.cl, hN, by rw [List.length_map] at hl; exact hl, ?_⟩
  have S3 := S2.write (o := .ins C dx (putF f w fs)) (k' := .obj c (putN f (fs.map (·.1)))) (xs' := putX f y (fs.map (·.1)) xs) (vs' := (putF f w fs).map (·.2)) hn hr
    (fun H' q => ⟨C, dx, putF f w fs, hC.m, q, putF_fst f w fs, rfl⟩) (putX_rep (r1.ext e2) rl)
  exact P.nx _ _ _ _ _ _ (e1.trans e2) S3 (R.ext (e1.trans e2)) q
end
/-! ### methods -/
/-- the method m of the class c keeps a promise -/
def MeOk (P : Program) (w : World) (K : PySem.W.Frag) (mg : Str → Option Value) (base : Heap) (k : Nat) (c m : Str) (ps : List Str) (sp : DSp) : Prop :=
  ∃ C f fd, ObC K mg c C ∧ Meth K C m f ∧ FnG P w K mg base k f fd ps sp ∧ Binds K fd ps []
theorem MeOk.mono {P : Program} {w : World} {K : PySem.W.Frag} {mg : Str → Option Value} {base : Heap} {j k : Nat} {c m : Str} {ps : List Str} {sp : DSp} (O : MeOk P w K mg base j c m ps sp) (h : j ≤ k) : MeOk P w K mg base k c m ps sp :=
  let ⟨C, f, fd, h1, h2, h3, h4⟩ := O; ⟨C, f, fd, h1, h2, h3.mono h, h4⟩
/-- .. called with n values by place (itself not counted) and the keywords ks -/
def MeC (P : Program) (w : World) (K : PySem.W.Frag) (mg : Str → Option Value) (base : Heap) (k : Nat) (c m : Str) (n : Nat) (ks : List Str) (is : List Nat) (dds : List D) (sp : DSp) : Prop :=
  ∃ C f fd ps, ∃ dvs : List V, ∃ its : List Value, ObC K mg c C ∧ Meth K C m f ∧ FnG P w K mg base k f fd ps sp ∧ KBn K fd ps (n + 1) ks (fun us ws => pick is (us ++ (ws ++ its))) (fun vs zs => pick is (vs ++ (zs ++ dvs))) ∧ ∀ F ρ, RepL ⟨K, mg⟩ F ρ dds dvs
theorem MeC.mono {P : Program} {w : World} {K : PySem.W.Frag} {mg : Str → Option Value} {base : Heap} {j k : Nat} {c m : Str} {n : Nat} {ks : List Str} {is : List Nat} {dds : List D} {sp : DSp} (O : MeC P w K mg base j c m n ks is dds sp) (h : j ≤ k) : MeC P w K mg base k c m n ks is dds sp :=
  let ⟨C, f, fd, ps, dvs, its, h1, h2, h3, h4⟩ := O; ⟨C, f, fd, ps, dvs, its, h1, h2, h3.mono h, h4⟩
def OkMs (P : Program) (w : World) (K : PySem.W.Frag) (mg : Str → Option Value) (base : Heap) (k : Nat) (m : Str) (tab : List (Str × DSp)) : Prop := ∀ q ∈ tab, ∃ ps, MeOk P w K mg base k q.1 m ps q.2
/-- o.m(..): o is an object of one of the classes told -/
def dMet (m : Str) (tab : List (Str × DSp)) (a : DE) (as : DA) : DE := fun δ κ X Q => a δ κ X fun x κ1 => ∃ c sp ns ys, view x κ1 = some (.obj c ns, ys) ∧ (c, sp) ∈ tab ∧ lookN ns ys m = none ∧ as δ κ1 X fun xs κ2 => sp (x :: xs) κ2 (X δ) Q
section
variable {X : Cx} {W : WX} {k : Nat} {m : Str} {o e : Expr} {es : List Expr} {a : DE} {as : DA} {tab : List (Str × DSp)} {apos pos : Pos}
theorem lookN_none {m : Str} : ∀ {fs : List (Str × V)} {xs : List D} {C : Ctx} {F : Hp} {ρ : Loc0}, RepL C F ρ xs (fs.map (·.2)) → lookN (fs.map (·.1)) xs m = none → fs.lookup m = none
  | [], _, _, _, _, _, _ => rfl
  | (n, v) :: fs, x :: xs, _, _, _, .cons r t, h => by
    have h' : (if m = n then some x else lookN (fs.map (·.1)) xs m) = none := h
    by_cases e : m = n
    · rw [if_pos e] at h'
      cases h'
    · rw [if_neg e] at h'
      have e' : (m == n) = false := by simpa using e
      simp [List.lookup, e', lookN_none t h']
/-- the receiver of a method -/
theorem recv_at {c : Str} {ns : List Str} {ys : List D} {F : Hp} {ρ : Loc0} {κ : Kap} {H : Hp} {x : D} {v : V} (S : StR (CtxOf X) F ρ κ H) (r : Rep (CtxOf X) F ρ x v) (h : view x κ = some (.obj c ns, ys)) (hm : lookN ns ys m = none) {C : Addr} (hC : ObC X.K X.mg c C) :
    ∃ p dx fs, v = .ref p ∧ H p = some (.ins C dx fs) ∧ fs.lookup m = none := by
  obtain ⟨p, vs, rfl, ⟨ca, dx, fs, q1, q2, q3, q4⟩, rl⟩ := view_at S r h
  have e2 := hC.m
  rw [show X.mg c = some (.ref ca) from q1] at e2
  cases e2
  subst q3 q4
  exact ⟨p, dx, fs, rfl, q2, lookN_none rl hm⟩
theorem pd_met {pl : Sem Bool} (G : Good k X W) (T : OkMs X.prog X.w X.K X.mg X.base k m tab) (ho : PED X W o a) (ha : PAD X W (e :: es) as)
    (hst : starEach (e :: es) X.env = (false, eval e X.env) :: starEach es X.env := by rfl) (hpl : (backTo pos (starEach es X.env)).any (·.1) = false := by rfl)
    (ht : eval (.Call (.Attribute o m apos) (e :: es) [] pos) X.env = (do
      let ov ← eval o X.env
      standAt apos.atName
      let (f, first) ← holding [ov] (getMethod ov m pl)
      callWith pos f first (backTo pos (starEach (e :: es) X.env)) (backToKw pos (keywordEach [] X.env))) := by rfl) :
    PED X W (.Call (.Attribute o m apos) (e :: es) [] pos) (dMet m tab a as) := by
  refine ⟨fun pins s σ H Q I ⟨F, ρ, κ, δ, XD, QD, S, R, h, P, PX⟩ => ?_⟩
  refine PySem.W.methodCall_KW (pl := pl) (thn (ho.run pins s σ H (fun v H1 => ∃ F1 ρ1 κ1 x, Ext F ρ F1 ρ1 ∧ StR (CtxOf X) F1 ρ1 κ1 H1 ∧ Rep (CtxOf X) F1 ρ1 x v ∧ ∃ c sp ns ys, view x κ1 = some (.obj c ns, ys) ∧ (c, sp) ∈ tab ∧ lookN ns ys m = none ∧ as δ κ1 XD fun xs κ2 => sp (x :: xs) κ2 (XD δ) QD) I
    ⟨F, ρ, κ, δ, XD, _, S, R, h, fun F1 ρ1 κ1 H1 x v e1 S1 r1 h1 => ⟨F1, ρ1, κ1, x, e1, S1, r1, h1⟩, PX⟩) fun u s1 ⟨v, H1, I1, rv, F1, ρ1, κ1, x, e1, S1, r1, c, sp, ns, ys, hx, hmem, hno, has⟩ => ?_) ht
  obtain ⟨ps, C, f, fd, hC, hM, hF, hB⟩ := T _ hmem
  obtain ⟨p, dx, fs, rfl, hp, hl⟩ := recv_at S1 r1 hx hno hC
  obtain rfl : u = Value.ref p := rv
  refine getmeth_ok I1 hp hC.cl hM hl ?_
  refine PySem.W.callWith_K (first := [.ref p]) (h₀ := X.base) I.ok.mod.kin hM.kp (thn (ha.run pos pins s1 σ H1 (fun vs H2 => ∃ F2 ρ2 κ2 xs, Ext F1 ρ1 F2 ρ2 ∧ StR (CtxOf X) F2 ρ2 κ2 H2 ∧ RepL (CtxOf X) F2 ρ2 xs vs ∧ sp (x :: xs) κ2 (XD δ) QD) I1
    ⟨F1, ρ1, κ1, δ, XD, _, S1, R.ext e1, has, fun F2 ρ2 κ2 H2 xs vs e2 S2 R2 h2 => ⟨F2, ρ2, κ2, xs, e2, S2, R2, h2⟩, PX.ext e1⟩) fun us s2 ⟨vs, H2, I2, r2, F2, ρ2, κ2, xs, e2, S2, R2, h2⟩ => ⟨I2.kIn, ?_⟩) hst hpl
  have rl : RepL (CtxOf X) F2 ρ2 (x :: xs) (V.ref p :: vs) := .cons (r1.ext e2) R2
  have hlen : (Value.ref p :: us ++ []).length = ps.length := by
    rw [List.append_nil, List.length_cons, ← Paired.length r2, ← hF.len _ _ _ _ h2, List.length_cons, R2.length]
  have hb := hB s2 (Value.ref p :: us) I2.kIn hlen
  rw [List.append_nil] at hb
  exact run_fnG G hF (args := ⟨Value.ref p :: us, []⟩) I2 hb (show Vals (V.ref p :: vs) (Value.ref p :: us) from .cons rfl r2) S2 (R.ext (e1.trans e2)) rl h2 (P.ext (e1.trans e2)) (PX.ext (e1.trans e2))
theorem pd_met0 {pl : Sem Bool} (G : Good k X W) (T : OkMs X.prog X.w X.K X.mg X.base k m tab) (ho : PED X W o a)
    (ht : eval (.Call (.Attribute o m apos) [] [] pos) X.env = (do
      let ov ← eval o X.env
      standAt apos.atName
      let (f, first) ← holding [ov] (getMethod ov m pl)
      callWith pos f first (backTo pos (starEach [] X.env)) (backToKw pos (keywordEach [] X.env))) := by rfl) :
    PED X W (.Call (.Attribute o m apos) [] [] pos) (dMet m tab a dNil) := by
  refine ⟨fun pins s σ H Q I ⟨F, ρ, κ, δ, XD, QD, S, R, h, P, PX⟩ => ?_⟩
  refine PySem.W.methodCall_KW (pl := pl) (thn (ho.run pins s σ H (fun v H1 => ∃ F1 ρ1 κ1 x, Ext F ρ F1 ρ1 ∧ StR (CtxOf X) F1 ρ1 κ1 H1 ∧ Rep (CtxOf X) F1 ρ1 x v ∧ ∃ c sp ns ys, view x κ1 = some (.obj c ns, ys) ∧ (c, sp) ∈ tab ∧ lookN ns ys m = none ∧ sp [x] κ1 (XD δ) QD) I
    ⟨F, ρ, κ, δ, XD, _, S, R, h, fun F1 ρ1 κ1 H1 x v e1 S1 r1 h1 => ⟨F1, ρ1, κ1, x, e1, S1, r1, h1⟩, PX⟩) fun u s1 ⟨v, H1, I1, rv, F1, ρ1, κ1, x, e1, S1, r1, c, sp, ns, ys, hx, hmem, hno, h2⟩ => ?_) ht
  obtain ⟨ps, C, f, fd, hC, hM, hF, hB⟩ := T _ hmem
  obtain ⟨p, dx, fs, rfl, hp, hl⟩ := recv_at S1 r1 hx hno hC
  obtain rfl : u = Value.ref p := rv
  refine getmeth_ok I1 hp hC.cl hM hl ?_
  have hlen : ([Value.ref p] ++ []).length = ps.length := by
    rw [← hF.len _ _ _ _ h2]
    rfl
  have hb := hB s1 [Value.ref p] I1.kIn hlen
  rw [List.append_nil] at hb
  exact PySem.W.callWith_K0 (first := [.ref p]) I1.kIn hM.kp (run_fnG G hF (args := ⟨[Value.ref p], []⟩) I1 hb (show Vals [V.ref p] [Value.ref p] from .cons rfl .nil) S1 (R.ext e1) (.cons r1 .nil) h2 (P.ext e1) (PX.ext e1))
end
/-! ### made -/
def MkOk (P : Program) (w : World) (K : PySem.W.Frag) (mg : Str → Option Value) (base : Heap) (k : Nat) (c : Str) (ps : List Str) (sp : DSp) : Prop :=
  ∃ C f fd, ObC K mg c C ∧ Mk K C f ∧ FnG P w K mg base k f fd ps sp ∧ Binds K fd ps []
theorem MkOk.mono {P : Program} {w : World} {K : PySem.W.Frag} {mg : Str → Option Value} {base : Heap} {j k : Nat} {c : Str} {ps : List Str} {sp : DSp} (O : MkOk P w K mg base j c ps sp) (h : j ≤ k) : MkOk P w K mg base k c ps sp :=
  let ⟨C, f, fd, h1, h2, h3, h4⟩ := O; ⟨C, f, fd, h1, h2, h3.mono h, h4⟩
/-- what is made is kept (m = false), or a cell -/
def mkQ (c : Str) (m : Bool) (n : Nat) (Q : DQ) : DQ := fun d κ => d = .non ∧ ∃ ns ys, κ n = some (.live (.obj c ns) ys) ∧ if m = true then Q (.cell n) κ else Q (.node (.obj c ns) ys) (kset κ n .dead)
def dMkO (c : Str) (m : Bool) (sp : DSp) (as : DA) : DE := fun δ κ X Q => as δ κ X fun xs κ1 => ∀ n, κ1 n = none → sp (.cell n :: xs) (kset κ1 n (.live (.obj c []) [])) (X δ) (mkQ c m n Q)
theorem guards_make {A : Around} {C : Addr} {us : List Value} {kw : List (Str × Value)} (h : A.guards = some []) : (A.under (.builtin "type.__call__" ⟨.ref C :: us, kw⟩)).guards = some [] := by
  have e : (A.under (.builtin "type.__call__" ⟨.ref C :: us, kw⟩)).guards = pushGuards (Code.guards (.builtin "type.__call__" ⟨.ref C :: us, kw⟩)) A.guards := rfl
  rw [e, h]
  rfl
section
variable {X : Cx} {W : WX} {k : Nat} {c : Str} {ps : List Str} {sp : DSp} {e : Expr} {es : List Expr} {as : DA} {p pos : Pos}
theorem run_mkO {pins : List (Addr × Obj)} {σ : L2.St} {δ : DEnv} {H : Hp} {s : Shared} {Q : VK} {us : List Value} {vs : List V} {xs : List D} {F : Hp} {ρ : Loc0} {κ : Kap} {XD : DX} {QD : DQ} {m : Bool} {C f : Addr} {fd : FuncData} (G : Good (k + 1) X W) (hC : ObC X.K X.mg c C) (M : Mk X.K C f) (hF : FnG X.prog X.w X.K X.mg X.base k f fd ps sp) (hB : Binds X.K fd ps [])
    (I : L2.Inv X pins σ H s) (r : Vals vs us) (S : StR (CtxOf X) F ρ κ H) (R : RepS (CtxOf X) F ρ δ σ) (rr : RepL (CtxOf X) F ρ xs vs) (h : ∀ n, κ n = none → sp (.cell n :: xs) (kset κ n (.live (.obj c []) [])) (XD δ) (mkQ c m n QD)) (P : Post (CtxOf X) F ρ QD Q) (PX : PostX (CtxOf X) F ρ XD W) :
    wpAny (model X.prog X.w) X.A (call (.ref C) us) (EP X pins σ Q) X.xe s := by
  obtain ⟨n, hn⟩ := S.fresh
  have I2 := Inv.made (C := C) I
  have e1 : H s.heap.objs.size = none := I.hok.fresh (Nat.le_refl _)
  have e2 : H (s.heap.objs.size + 1) = none := I.hok.fresh (Nat.le_succ _)
  obtain ⟨ex1, S1⟩ := S.laid (o := .own (s.heap.objs.size + 1)) e1
  obtain ⟨ρ2, ex2, hr, S2⟩ := S1.cell (p := s.heap.objs.size + 1) (o := .ins C s.heap.objs.size []) (k := .obj c []) (vs := []) (xs := []) (by rw [upd_ne (Nat.succ_ne_self _)]; exact e2) (fun H' q => ⟨C, _, [], hC.m, q, rfl, rfl⟩) .nil hn
  have ex := ex1.trans ex2
  have hq := h n hn
  have rl : RepL (CtxOf X) (upd F s.heap.objs.size (.own (s.heap.objs.size + 1))) ρ2 (.cell n :: xs) (V.ref (s.heap.objs.size + 1) :: vs) := .cons (.cell hr) (rr.ext ex)
  have r2 : Vals (V.ref (s.heap.objs.size + 1) :: vs) (Value.ref (s.heap.objs.size + 1) :: us) := .cons rfl r
  have hl : (Value.ref (s.heap.objs.size + 1) :: us ++ []).length = ps.length := by
    rw [List.append_nil, ← Paired.length r2, ← rl.length, hF.len _ _ _ _ hq]
  have hb := hB _ (Value.ref (s.heap.objs.size + 1) :: us) I2.kIn hl
  rw [List.append_nil] at hb
  refine wpAny_call (make_map (f := f) I.kIn M.makes M.init (beq_iff_eq.mp M.fn) (codeAny_mono (hF.run _ X.stack _ _ ⟨Value.ref (s.heap.objs.size + 1) :: us, []⟩ _ _ _ _ ρ2 _ (XD δ) _ (fun v H2 => v = .non ∧ Q (.ref (s.heap.objs.size + 1)) H2) (fun cls dd H' => W cls dd σ H')
    (G.rm.make C us []) (guards_make G.gd) (I2.env0.make C us []) hb r2 S2 rl hq ?_ ?_) fun rs s' hq' => ?_))
  · intro F3 ρ3 κ3 H3 d v e3 S3 r3 ⟨hd, ns, ys, hk, hQ⟩
    subst hd
    cases r3
    refine ⟨rfl, ?_⟩
    cases m with
    | true => exact P _ _ _ _ _ _ (ex.trans e3) S3 (.cell (e3.r _ _ hr)) hQ
    | false =>
      obtain ⟨F4, e4, r4, S4⟩ := S3.freeze hk (e3.r _ _ hr)
      exact P _ _ _ _ _ _ (ex.trans (e3.trans e4)) S4 r4 hQ
  · intro F3 ρ3 κ3 H3 c3 fs3 cls dd e3 S3 rx q
    exact PX _ _ _ _ _ _ _ _ _ _ (ex.trans e3) S3 (R.ext (ex.trans e3)) rx q
  · cases rs with
    | error er => exact G.tk er s' (L2N.XE.of_call (I2) (fun _ _ _ h => h) hq')
    | ok fl =>
      cases fl with
      | ret u =>
        obtain ⟨v, H', I3, rv, ev, q3⟩ := I2.after (X := X) (pins := pins) (σ := σ) hq'
        subst ev
        exact ⟨rv, ⟨V.ref (s.heap.objs.size + 1), H', I3, rfl, q3⟩⟩
      | next => exact False.elim hq'
      | brk => exact False.elim hq'
      | cont => exact False.elim hq'
theorem pd_mkO (m : Bool) (G : Good (k + 1) X W) (O : MkOk X.prog X.w X.K X.mg X.base k c ps sp) (ha : PAD X W (e :: es) as) (hg : Gl X c := by rfl) (hdb : (c == ("__debug__" : Str)) = false := by decide)
    (he : starEach (e :: es) X.env = (false, eval e X.env) :: starEach es X.env := by rfl) (hpl : (backTo pos (starEach es X.env)).any (·.1) = false := by rfl) : PED X W (.Call (.Name c p) (e :: es) [] pos) (dMkO c m sp as) := by
  obtain ⟨C, f, fd, hC, M, hF, hB⟩ := O
  refine ⟨fun pins s σ H Q I ⟨F, ρ, κ, δ, XD, QD, S, R, h, P, PX⟩ => ?_⟩
  refine wpAny_Call_Name_kw (ld_glob I hg hC.m ?_ hdb)
  refine PySem.W.callWith_K (h₀ := X.base) I.ok.mod.kin M.kp (thn (ha.run pos pins s σ H (fun vs H1 => ∃ F1 ρ1 κ1 xs, Ext F ρ F1 ρ1 ∧ StR (CtxOf X) F1 ρ1 κ1 H1 ∧ RepL (CtxOf X) F1 ρ1 xs vs ∧ ∀ n, κ1 n = none → sp (.cell n :: xs) (kset κ1 n (.live (.obj c []) [])) (XD δ) (mkQ c m n QD)) I
    ⟨F, ρ, κ, δ, XD, _, S, R, h, fun F1 ρ1 κ1 H1 xs vs e1 S1 R1 h1 => ⟨F1, ρ1, κ1, xs, e1, S1, R1, h1⟩, PX⟩) fun us s1 ⟨vs, H1, I1, r1, F1, ρ1, κ1, xs, e1, S1, R1, h1⟩ => ⟨I1.kIn, ?_⟩) he hpl
  exact run_mkO G hC M hF hB I1 r1 S1 (R.ext e1) R1 h1 (P.ext e1) (PX.ext e1)
theorem pd_mkO0 (m : Bool) (G : Good (k + 1) X W) (O : MkOk X.prog X.w X.K X.mg X.base k c ps sp) (hg : Gl X c := by rfl) (hdb : (c == ("__debug__" : Str)) = false := by decide) : PED X W (.Call (.Name c p) [] [] pos) (dMkO c m sp dNil) := by
  obtain ⟨C, f, fd, hC, M, hF, hB⟩ := O
  refine ⟨fun pins s σ H Q I ⟨F, ρ, κ, δ, XD, QD, S, R, h, P, PX⟩ => ?_⟩
  refine wpAny_Call_Name_kw (ld_glob I hg hC.m ?_ hdb)
  exact PySem.W.callWith_K0 I.kIn M.kp (run_mkO (us := []) G hC M hF hB I .nil S R .nil h P PX)
end
end DL

/-! DLz: list(zip(..)), at the library's level. -/
namespace ZN
open PySem
theorem zip_no_len : typeLookup (.type "zip") "__len__" = pure none := by rw [typeLookup_type, builtinLookup_eq_fast]; kernel_rfl
theorem zip_no_hint : typeLookup (.type "zip") "__length_hint__" = pure none := by rw [typeLookup_type, builtinLookup_eq_fast]; kernel_rfl
/-- a zip whose last tuple lives on -/
abbrev IsZp (h : Heap) (z TI TO : Addr) (f0 f1 : Value) : Prop :=
  h.get? z = some { cls := .type "zip", dict := none, data := .fields #[f0, f1, .bool false, .ref TI, .ref TO], slots := #[] }
theorem wpAny_alive {M : Model} {A : Around} {E : Value → Shared → Prop} {s : Shared} {a : Addr} {Q : Option Obj → Shared → Prop} (h : Q (s.heap.get? a) s) : wpAny M A (loadIfAlive a) Q E s := fun Γ p _ => by
  unfold loadIfAlive
  rw [Sem.wp_loadIfAlive]
  exact h
section
variable {prog : Program} {w : World} {A : Around} {E : Value → Shared → Prop} {s : Shared}
theorem owned_lives {z TI TO a : Addr} {k : Bool} {o : Obj} {Q : Bool → Shared → Prop} (hz : IsZp s.heap z TI TO (rawInt a) (.bool k)) (ha : s.heap.get? a = some o)
    (hQ : ∀ h', IsZp h' z TI TO (rawInt a) (.bool true) → Heap.SameBut z s.heap h' → Q false { s with heap := h' }) : wpAny (model prog w) A (Builtin.SmallTypes.ownedTupleIsFree (.ref z)) Q E s := by
  unfold Builtin.SmallTypes.ownedTupleIsFree
  refine wpAny_bind (wpAny_field hz rfl (x := rawInt a) rfl ?_)
  show wpAny _ _ (loadIfAlive ((a : Int).toNat) >>= _) _ _ _
  refine wpAny_bind (wpAny_alive ?_)
  rw [Int.toNat_natCast, ha]
  rw [if_neg (by simp)]
  show wpAny _ _ (field (.ref z) 1 >>= _) _ _ _
  refine wpAny_bind (wpAny_field hz rfl (x := .bool k) rfl ?_)
  cases k with
  | true =>
    rw [if_neg (by decide)]
    exact wpAny_pure (hQ s.heap hz (Heap.SameBut.refl _ _))
  | false =>
    rw [if_pos (by decide)]
    refine wpAny_bind (wpAny_setField_rec hz (by simp) fun h' z' sb => wpAny_pure ?_)
    exact hQ h' z' sb
theorem zs_next2 {z TI TO a : Addr} {k : Bool} {o : Obj} {cs : List Zs} {n : Nat} {ts : List Value} {Q : Value → Shared → Prop} (hh : A.handled = none) (D : Apart z TI TO cs) (hne : cs ≠ []) (hn : cs.length ≤ 100) (hz : IsZp s.heap z TI TO (rawInt a) (.bool k)) (ha : s.heap.get? a = some o) (hTI : IsT s.heap TI (refsOf cs)) (hTO : IsT s.heap TO ts) (hs : ∀ c ∈ cs, Src s.heap n c)
    (hQ : ∀ (vs : List Value) h', vs.length = cs.length → (∀ (i : Nat) (c : Zs), cs[i]? = some c → c.xs[n]? = vs[i]?) → IsZp h' z TI TO (rawInt a) (.bool true) → (∀ c ∈ cs, Src h' (n + 1) c) → IsT h' s.heap.objs.size vs →
      Stays z TO cs s.heap h' → IsT h' TO ts → Q (.ref s.heap.objs.size) { s with heap := h' })
    (hE : ∀ c ∈ cs, c.xs[n]? = none → ∀ h' e, Stays z TO cs s.heap h' → (∃ o, h'.get? e = some o ∧ o.cls = .type "StopIteration") → E (.ref e) { s with heap := h' }) :
    wpAny (model prog w) A (Builtin.«zip.__next__» ⟨[.ref z], []⟩) (fun fin s' => ∃ v, fin = .done (.ret v) ∧ Q v s') E s := by
  show wpAny _ _ (field (.ref z) 2 >>= _) _ _ _
  refine wpAny_bind (wpAny_field hz rfl (x := .bool false) rfl ?_)
  show wpAny _ _ (field (.ref z) 3 >>= _) _ _ _
  refine wpAny_bind (wpAny_field hz rfl (x := .ref TI) rfl ?_)
  refine wpAny_bind (wpAny_seqItems hTI rfl ?_)
  have he : ((refsOf cs).toArray.isEmpty = true) = False := by
    cases cs with
    | nil => exact absurd rfl hne
    | cons c cs => simp [refsOf]
  dsimp only
  rw [if_neg (by rw [he]; exact id)]
  refine wpAny_bind (owned_lives hz ha fun g1 z1 k1 => ?_)
  rw [if_neg (by decide)]
  refine wpAny_bind ?_
  rw [← Array.forIn_toList]
  refine zloop (fun j b s' => b.1 = none ∧ ∃ (h' : Heap), s' = { s with heap := h' } ∧ h'.objs.size = s.heap.objs.size ∧ IsZp h' z TI TO (rawInt a) (.bool true) ∧ b.2.size = j ∧
    (∀ (i : Nat) (c : Zs), i < j → cs[i]? = some c → c.xs[n]? = b.2[i]?) ∧ (∀ (i : Nat) (c : Zs), cs[i]? = some c → Src h' (if i < j then n + 1 else n) c) ∧ Stays z TO cs s.heap h' ∧ IsT h' TO ts) _ 0 _ _ ?step ?start ?done
  case start =>
    refine ⟨rfl, g1, rfl, k1.1, z1, rfl, fun i c h => absurd h (by omega), fun i c hc => ?_, fun a o h1 _ _ e => k1.extBut _ _ h1 e, k1.extBut _ _ D.oz hTO⟩
    have hm := List.mem_of_getElem? hc
    exact (hs c hm).ext k1.extBut (D.i c hm).1 (D.l c hm).1
  case step =>
    rintro i it b s' hp ⟨hb1, h', rfl, hsz, hz', hl, hv, hsr, hst, hto⟩
    rw [Nat.zero_add] at hv hsr hl
    have hv0' : (refsOf cs)[i]? = some it := hp
    unfold refsOf at hv0'
    rw [List.getElem?_map, Option.map_eq_some_iff] at hv0'
    obtain ⟨c, hc, rfl⟩ := hv0'
    have hm := List.mem_of_getElem? hc
    have hsc := hsr i c hc
    rw [if_neg (Nat.lt_irrefl i)] at hsc
    refine wpAny_bind (wpAny_holding ?_)
    show wpAny _ _ (Builtin.SmallTypes.nextOf (.ref c.it) >>= _) _ _ _
    cases hx : c.xs[n]? with
    | none =>
      refine wpAny_bind (src_end (s := { s with heap := h' }) hh hsc hx fun h2 e k2 he2 => ?_)
      exact hE c hm hx h2 e (fun a o a1 a2 a3 q => k2 _ _ (a3 c hm) (hst a o a1 a2 a3 q)) he2
    | some v =>
      refine wpAny_bind (src_item (s := { s with heap := h' }) hsc ((D.l c hm).2.2 c hm) hx fun h2 sc2 k2 => wpAny_pure ?_)
      refine wpAny_pure ⟨_, rfl, by first | exact hb1 | rfl, ?_⟩
      refine ⟨_, rfl, k2.1.trans hsz, k2.extBut _ _ (D.i c hm).1.symm hz', by rw [Array.size_push, hl, Nat.zero_add], fun i2 c2 h2' hc2 => ?_, fun i2 c2 hc2 => ?_, fun a o a1 a2 a3 q => k2.extBut _ _ (a3 c hm) (hst a o a1 a2 a3 q), k2.extBut _ _ (D.i c hm).2.2.symm hto⟩
      · rw [Nat.zero_add] at h2'
        rw [Array.getElem?_push, hl]
        by_cases e : i2 = i
        · subst e
          rw [if_pos rfl]
          rw [hc] at hc2
          cases hc2
          exact hx
        · rw [if_neg e]
          exact hv i2 c2 (by omega) hc2
      · rw [Nat.zero_add]
        have hm2 := List.mem_of_getElem? hc2
        by_cases e : i2 = i
        · subst e
          rw [hc] at hc2
          cases hc2
          rw [if_pos (by omega)]
          exact sc2
        · have q := hsr i2 c2 hc2
          have q2 : (if i2 < i + 1 then n + 1 else n) = if i2 < i then n + 1 else n := by
            by_cases r : i2 < i
            · rw [if_pos r, if_pos (by omega)]
            · rw [if_neg r, if_neg (by omega)]
          rw [q2]
          exact q.ext k2.extBut (D.nd i2 i c2 c hc2 hc e) ((D.l c2 hm2).2.2 c hm)
  case done =>
    rintro b s' ⟨hb1, h', rfl, hsz, hz', hl, hv, hsr, hst, hto⟩
    have hpl : (refsOf cs).toArray.toList.length = cs.length := by simp [refsOf]
    rw [hpl, Nat.zero_add] at hv hsr hl
    have hi2 : ∀ (i : Nat) (c : Zs), cs[i]? = some c → i < cs.length := fun i c hc => (List.getElem?_eq_some_iff.mp hc).1
    rw [hb1]
    refine wpAny_bind (wpAny_newTuple (s := { s with heap := h' }) ?_ (by rw [Array.length_toList, hl, sizeLine_eq]; omega))
    refine wpAny_pure ⟨_, rfl, ?_⟩
    show Q (.ref h'.objs.size) _
    have up : ∀ a o, h'.get? a = some o → (h'.push { cls := .type "tuple", data := .seq b.2.toList.toArray }).get? a = some o := fun a o q => Heap.get?_push_of_some _ q
    have new : IsT (h'.push { cls := .type "tuple", data := .seq b.2.toList.toArray }) h'.objs.size b.2.toList := Heap.get?_push_size _ rfl
    rw [hsz] at new ⊢
    refine hQ b.2.toList _ (by rw [Array.length_toList, hl]) (fun i c hc => by rw [hv i c (hi2 i c hc) hc]; simp) (up _ _ hz') (fun c hc => ?_) new (fun a o a1 a2 a3 q => up a o (hst a o a1 a2 a3 q)) (up _ _ hto)
    obtain ⟨i, hi⟩ := List.mem_iff_getElem?.mp hc
    have q := hsr i c hi
    rw [if_pos (hi2 i c hi)] at q
    exact q.keep (fun o => up _ o) fun o => up _ o
/-- one turn of a walk over a zip whose last tuple lives on -/
theorem pyNext_zs2 {z TI TO a : Addr} {k : Bool} {o : Obj} {cs : List Zs} {n : Nat} {ts : List Value} {Q : Option Value → Shared → Prop} (hh : A.handled = none) (D : Apart z TI TO cs) (hne : cs ≠ []) (hn : cs.length ≤ 100) (hz : IsZp s.heap z TI TO (rawInt a) (.bool k)) (ha : s.heap.get? a = some o) (hTI : IsT s.heap TI (refsOf cs)) (hTO : IsT s.heap TO ts) (hs : ∀ c ∈ cs, Src s.heap n c)
    (hQ : ∀ (vs : List Value) h', vs.length = cs.length → (∀ (i : Nat) (c : Zs), cs[i]? = some c → c.xs[n]? = vs[i]?) → IsZp h' z TI TO (rawInt a) (.bool true) → (∀ c ∈ cs, Src h' (n + 1) c) → IsT h' s.heap.objs.size vs →
      Stays z TO cs s.heap h' → IsT h' TO ts → Q (some (.ref s.heap.objs.size)) { s with heap := h' })
    (hE : ∀ c ∈ cs, c.xs[n]? = none → ∀ h', Stays z TO cs s.heap h' → Q none { s with heap := h' }) : wpAny (model prog w) A (pyNext (.ref z)) Q E s := by
  have hT : s.TypeIs (.ref z) "zip" := ⟨_, hz, rfl⟩
  unfold pyNext
  refine wpAny_bind (wpAny_attempt (wpAny_callSpecial?_slot (name := Str.ofString "__next__") hT F.slot_zip_next
    (wpAny_call_entry F.slot_zip_next hT F.entry_zip_next (zs_next2 hh D hne hn hz ha hTI hTO hs (fun vs h' a1 a2 a3 a4 a5 a6 a7 => wpAny_pure (hQ vs h' a1 a2 a3 a4 a5 a6 a7)) fun c hc hx h' e st he => ?_) (F.args_zip_next_1 _))))
  obtain ⟨o, ho, hcl⟩ := he
  refine wpAny_bind (wpAny_isInstance (T := "StopIteration") (b := true) ⟨o, ho, hcl⟩ isSubtype_stop ?_)
  exact wpAny_pure (hE c hc hx _ st)
end
end ZN
namespace ZN
open PySem PySem.Spec PyProof.Rows L2
/-- a zip behind i turns; the tuples that it told live on -/
def ZSt (z TI TO : Addr) (its : List Addr) (ks : List (Bool × Addr)) (i : Nat) (h : Heap) : Prop :=
  (IsZp h z TI TO .none (.bool false) ∨ ∃ (a : Addr) (k : Bool) (o : Obj), IsZp h z TI TO (rawInt a) (.bool k) ∧ h.get? a = some o) ∧ IsT h TI (its.map Value.ref) ∧ (∃ ts : List Value, ts.length = ks.length ∧ IsT h TO ts) ∧ ∀ (j : Nat) (q : Bool × Addr) (it : Addr), ks[j]? = some q → its[j]? = some it → SrcI h i q.1 it q.2
theorem ZSt.keep {z TI TO : Addr} {its : List Addr} {ks : List (Bool × Addr)} {i : Nat} {h h' : Heap} (st : ZSt z TI TO its ks i h) (k : ∀ b ∈ z :: TI :: TO :: its, ∀ o, h.get? b = some o → h'.get? b = some o) (al : ∀ b o, h.get? b = some o → ∃ o', h'.get? b = some o') : ZSt z TI TO its ks i h' := by
  obtain ⟨hz, hTI, ⟨ts, ht, hTO⟩, hi⟩ := st
  refine ⟨?_, k TI (by simp) _ hTI, ⟨ts, ht, k TO (by simp) _ hTO⟩, fun j q it h1 h2 => ?_⟩
  · rcases hz with hz | ⟨a, c, o, hz, ha⟩
    · exact .inl (k z (by simp) _ hz)
    · obtain ⟨o', ho⟩ := al _ _ ha
      exact .inr ⟨a, c, o', k z (by simp) _ hz, ho⟩
  · have r := hi j q it h1 h2
    have hm : it ∈ z :: TI :: TO :: its := by simp [List.mem_of_getElem? h2]
    obtain ⟨b, a⟩ := q
    cases b with
    | true => obtain ⟨o, e, d⟩ := r; exact ⟨o, k it hm _ e, d⟩
    | false => obtain ⟨o, e, d⟩ := r; exact ⟨o, k it hm _ e, d⟩
section
variable {X : Cx} {pins : List (Addr × Obj)} {σ : L2.St} {H : Hp} {s : Shared} {A : Around} {E : Value → Shared → Prop} {z TI TO : Addr} {its : List Addr} {ks : List (Bool × Addr)} {i : Nat}
theorem next_row (hA : A.handled = none) (I : L2.Inv X pins σ H s) (D : Ap z TI TO its ks) (hl : its.length = ks.length) (hne : ks ≠ []) (hn : ks.length ≤ 100) (st : ZSt z TI TO its ks i s.heap) (hf : ∀ b ∈ z :: TI :: TO :: its, FpOk X pins H b)
    (hg : ∀ (j : Nat) (q : Bool × Addr), ks[j]? = some q → ∃ xs x, SqK X.K H q.1 q.2 xs ∧ xs[i]? = some x) :
    wpAny (model X.prog X.w) A (pyNext (.ref z)) (fun r s1 => ∃ T ws, r = some (.ref T) ∧ L2.Inv X pins σ (upd H T (.tup ws)) s1 ∧ H T = none ∧ T ∉ z :: TI :: TO :: its ∧ ws.length = ks.length ∧
      (∀ (j : Nat) (q : Bool × Addr) (xs : List V), ks[j]? = some q → SqK X.K H q.1 q.2 xs → ∃ x, xs[i]? = some x ∧ ws[j]? = some x) ∧ ZSt z TI TO its ks (i + 1) s1.heap ∧ ∀ b ∈ z :: TI :: TO :: its, FpOk X pins (upd H T (.tup ws)) b) E s := by
  obtain ⟨hz, hTI, ⟨ts, ht, hTO⟩, hi⟩ := st
  obtain ⟨cs, hcl, hcs⟩ := srcs_at I hl hi fun j q h => by
    obtain ⟨xs, x, a, _⟩ := hg j q h
    exact ⟨xs, a⟩
  have hcit : ∀ (j : Nat) (c : Zs), cs[j]? = some c → its[j]? = some c.it := fun j c h => by
    obtain ⟨q, xs, us, a, b, _⟩ := hcs j c h
    exact b
  have er := refs_of (hcl.trans hl.symm) hcit
  have DA : Apart z TI TO cs := D.to' fun j c h => by
    obtain ⟨q, xs, us, a, b, e, _⟩ := hcs j c h
    exact ⟨b, q, a, e⟩
  rw [← er] at hTI
  have cne : cs ≠ [] := fun e => by
    rw [e] at hcl
    exact hne (List.length_eq_zero_iff.mp hcl.symm)
  have hzl : z < s.heap.objs.size := by
    rcases hz with hz | ⟨_, _, _, hz, _⟩ <;> exact Heap.lt_size hz
  have cmem : ∀ c ∈ cs, ∃ (j : Nat), cs[j]? = some c := fun c h => List.mem_iff_getElem?.mp h
  have src : ∀ c ∈ cs, Src s.heap i c := fun c h => by
    obtain ⟨j, hj⟩ := cmem c h
    obtain ⟨q, xs, us, _, _, _, _, _, _, z⟩ := hcs j c hj
    exact z
  have never : ∀ c ∈ cs, c.xs[i]? = none → False := fun c h hx => by
    obtain ⟨j, hj⟩ := cmem c h
    obtain ⟨q, xs, us, a, _, _, sq, rv, ex, _⟩ := hcs j c hj
    obtain ⟨xs2, x, sq2, hx2⟩ := hg j q a
    rw [seq_inj I sq2 sq] at hx2
    obtain ⟨u, hu, ru⟩ := rv.get hx2
    rw [ex] at hx
    simp only [List.getElem?_toArray] at hx
    rw [hu] at hx
    cases hx
  have fin : ∀ (vs : List Value) (h' : Heap), vs.length = cs.length → (∀ (i' : Nat) (c : Zs), cs[i']? = some c → c.xs[i]? = vs[i']?) → (∃ (a : Addr) (k : Bool) (o : Obj), IsZp h' z TI TO (rawInt a) (.bool k) ∧ h'.get? a = some o) → (∃ ts : List Value, ts.length = ks.length ∧ IsT h' TO ts) → (∀ c ∈ cs, Src h' (i + 1) c) → IsT h' s.heap.objs.size vs → Stays z TO cs s.heap h' →
      ∃ T ws, some (Value.ref s.heap.objs.size) = some (.ref T) ∧ L2.Inv X pins σ (upd H T (.tup ws)) { s with heap := h' } ∧ H T = none ∧ T ∉ z :: TI :: TO :: its ∧ ws.length = ks.length ∧
      (∀ (j : Nat) (q : Bool × Addr) (xs : List V), ks[j]? = some q → SqK X.K H q.1 q.2 xs → ∃ x, xs[i]? = some x ∧ ws[j]? = some x) ∧ ZSt z TI TO its ks (i + 1) h' ∧ ∀ b ∈ z :: TI :: TO :: its, FpOk X pins (upd H T (.tup ws)) b := by
    intro vs h' hvl hv z' TO' sr hT stays
    obtain ⟨ws, hwl, hws⟩ : ∃ ws : List V, ws.length = ks.length ∧ ∀ (j : Nat) (x : V), ws[j]? = some x → ∃ q xs u, ks[j]? = some q ∧ SqK X.K H q.1 q.2 xs ∧ xs[i]? = some x ∧ vs[j]? = some u ∧ RelV x u := by
      refine list_of ks.length fun j hj => ?_
      have e3 := List.getElem?_eq_getElem (show j < cs.length by omega)
      obtain ⟨q, xs, us, a, _, _, sq, rv, ex, _⟩ := hcs j _ e3
      obtain ⟨xs2, x, sq2, hx⟩ := hg j q a
      rw [seq_inj I sq2 sq] at hx
      obtain ⟨u, hu, ru⟩ := rv.get hx
      refine ⟨x, q, xs, u, a, sq, hx, ?_, ru⟩
      rw [← hv j _ e3, ex]
      simpa using hu
    have rws : Vals ws vs := paired_of (by omega) fun j x u h1 h2 => by
      obtain ⟨q, xs, u', _, _, _, hu, ru⟩ := hws j x h1
      rw [h2] at hu
      cases hu
      exact ru
    have new : ObjOk X.prog X.w (upd H s.heap.objs.size (.tup ws)) h' s.heap.objs.size (.tup ws) :=
      ⟨by rw [hwl, sizeLine_eq]; omega, vs, rws, ⟨_, hT, rfl, _, rfl⟩⟩
    have hmz : ∀ a, a ∉ z :: TI :: TO :: its → a ≠ z ∧ a ≠ TI ∧ a ≠ TO ∧ ∀ c ∈ cs, a ≠ c.it := fun a ha => by
      simp only [List.mem_cons, not_or] at ha
      refine ⟨ha.1, ha.2.1, ha.2.2.1, fun c hc e => ?_⟩
      obtain ⟨j, hj⟩ := cmem c hc
      exact ha.2.2.2 (e ▸ List.mem_of_getElem? (hcit j c hj))
    have I1 : L2.Inv X pins σ (upd H s.heap.objs.size (.tup ws)) { s with heap := h' } :=
      I.turnedNew (t' := s.toks) (ch := z :: TI :: TO :: its) (fun a o hb q => by
        obtain ⟨b1, b2, b3, b4⟩ := hmz a hb
        exact stays a o b1 b3 b4 q) hf (Nat.le_refl _) new
    have flt : ∀ c ∈ z :: TI :: TO :: its, c < s.heap.objs.size := fun c hcm => by
      rcases List.mem_cons.mp hcm with q | hc
      · rw [q]; exact hzl
      rcases List.mem_cons.mp hc with q | hc
      · rw [q]; exact Heap.lt_size hTI
      rcases List.mem_cons.mp hc with q | hc
      · rw [q]; exact Heap.lt_size hTO
      obtain ⟨j, hj⟩ := List.mem_iff_getElem?.mp hc
      have hjl : j < ks.length := by have := (List.getElem?_eq_some_iff.mp hj).1; omega
      have q := hi j _ c (List.getElem?_eq_getElem hjl) hj
      generalize ks[j] = kq at q
      obtain ⟨b, a⟩ := kq
      cases b with
      | true => obtain ⟨o, e, _⟩ := q; exact Heap.lt_size e
      | false => obtain ⟨o, e, _⟩ := q; exact Heap.lt_size e
    refine ⟨s.heap.objs.size, ws, rfl, I1, I.hok.fresh (Nat.le_refl _), fun hm => Nat.lt_irrefl _ (flt _ hm), hwl, fun j q xs h1 h2 => ?_, ⟨.inr z', ?_, TO', fun j q it h1 h2 => ?_⟩, fun c hcm => ?_⟩
    · have e3 := List.getElem?_eq_getElem (show j < ws.length by have := (List.getElem?_eq_some_iff.mp h1).1; omega)
      obtain ⟨q2, xs2, u, a, b, d, _, _⟩ := hws j _ e3
      rw [h1] at a
      cases a
      rw [seq_inj I h2 b]
      exact ⟨_, d, e3⟩
    · rw [← er]
      exact stays _ _ D.tz D.to (fun c hc => (DA.i c hc).2.1.symm) hTI
    · have hjl : j < cs.length := by have := (List.getElem?_eq_some_iff.mp h1).1; omega
      have e3 := List.getElem?_eq_getElem hjl
      have hci := hcit j _ e3
      rw [h2] at hci
      cases hci
      have e4 := sr _ (List.mem_of_getElem? e3)
      obtain ⟨q2, xs2, us2, a1, a2, a3, a4, a5, a6, a7⟩ := hcs j _ e3
      rw [h1] at a1
      cases a1
      obtain ⟨b, l⟩ := q
      cases b with
      | true =>
        rcases e4 with ⟨x1, x2⟩ | ⟨x1, x2⟩
        · rw [a3] at x1
          exact x1
        · exfalso
          obtain ⟨its', _, p, _⟩ := I.list (show SqL X.K H l xs2 from a4)
          obtain ⟨o1, y1, y2, _⟩ := p.isList
          obtain ⟨o2, y3, y4, _⟩ := x2
          rw [a3] at y3
          have hle := DA.l _ (List.mem_of_getElem? e3)
          rw [a3] at hle
          rw [stays _ _ hle.1 hle.2.1 hle.2.2 y1] at y3
          cases y3
          rw [y2] at y4
          exact absurd y4 (by simp)
      | false =>
        rcases e4 with ⟨x1, x2⟩ | ⟨x1, x2⟩
        · exfalso
          obtain ⟨its', _, p, _⟩ := I.tuple (show SqT X.K H l xs2 from a4)
          obtain ⟨o1, y1, y2, _⟩ := p
          obtain ⟨o2, y3, y4, _⟩ := x2
          rw [a3] at y3
          have hle := DA.l _ (List.mem_of_getElem? e3)
          rw [a3] at hle
          rw [stays _ _ hle.1 hle.2.1 hle.2.2 y1] at y3
          cases y3
          rw [y2] at y4
          exact absurd y4 (by simp)
        · rw [a3] at x1
          exact x1
    · have q := hf c hcm
      exact ⟨by rw [upd_ne (Nat.ne_of_lt (flt c hcm))]; exact q.1, q.2⟩
  rcases hz with hz | ⟨a, k, o, hz, ha⟩
  · refine pyNext_zs (k := i) hA DA cne (by omega) hz hTI hTO (ht.trans hcl.symm) src (fun vs h' hvl hv z' TO' sr hT stays => fin vs h' hvl hv ⟨_, false, _, z', hT⟩ ⟨vs, by omega, TO'⟩ sr hT stays) fun c h hx => (never c h hx).elim
  · refine pyNext_zs2 (n := i) hA DA cne (by omega) hz ha hTI hTO src (fun vs h' hvl hv z' sr hT stays TO' => ?_) fun c h hx => (never c h hx).elim
    refine fin vs h' hvl hv ?_ ⟨ts, ht, TO'⟩ sr hT stays
    by_cases e : a = z ∨ a = TO ∨ ∃ c ∈ cs, a = c.it
    · rcases e with e | e | ⟨c, hc, e⟩
      · exact ⟨a, true, _, z', by rw [e]; exact z'⟩
      · exact ⟨a, true, _, z', by rw [e]; exact TO'⟩
      · obtain ⟨ob, vs2, x1, _⟩ := (sr c hc).obj
        exact ⟨a, true, _, z', by rw [e]; exact x1⟩
    · exact ⟨a, true, _, z', stays a o (fun q => e (.inl q)) (fun q => e (.inr (.inl q))) (fun c hc q => e (.inr (.inr ⟨c, hc, q⟩))) ha⟩
theorem next_none (hA : A.handled = none) (I : L2.Inv X pins σ H s) (D : Ap z TI TO its ks) (hl : its.length = ks.length) (hne : ks ≠ []) (hn : ks.length ≤ 100) (st : ZSt z TI TO its ks i s.heap) (hf : ∀ b ∈ z :: TI :: TO :: its, FpOk X pins H b)
    (hg : (∀ (j : Nat) (q : Bool × Addr), ks[j]? = some q → ∃ xs, SqK X.K H q.1 q.2 xs) ∧ ∃ (j : Nat) (q : Bool × Addr) (xs : List V), ks[j]? = some q ∧ SqK X.K H q.1 q.2 xs ∧ xs.length ≤ i) :
    wpAny (model X.prog X.w) A (pyNext (.ref z)) (fun r s1 => r = none ∧ L2.Inv X pins σ H s1) E s := by
  obtain ⟨hz, hTI, ⟨ts, ht, hTO⟩, hi⟩ := st
  obtain ⟨hall, j0, q0, xs0, hj0, sq0, hle0⟩ := hg
  obtain ⟨cs, hcl, hcs⟩ := srcs_at I hl hi hall
  have hcit : ∀ (j : Nat) (c : Zs), cs[j]? = some c → its[j]? = some c.it := fun j c h => by
    obtain ⟨q, xs, us, a, b, _⟩ := hcs j c h
    exact b
  have er := refs_of (hcl.trans hl.symm) hcit
  have DA : Apart z TI TO cs := D.to' fun j c h => by
    obtain ⟨q, xs, us, a, b, e, _⟩ := hcs j c h
    exact ⟨b, q, a, e⟩
  rw [← er] at hTI
  have cne : cs ≠ [] := fun e => by
    rw [e] at hcl
    exact hne (List.length_eq_zero_iff.mp hcl.symm)
  have cmem : ∀ c ∈ cs, ∃ (j : Nat), cs[j]? = some c := fun c h => List.mem_iff_getElem?.mp h
  have src : ∀ c ∈ cs, Src s.heap i c := fun c h => by
    obtain ⟨j, hj⟩ := cmem c h
    obtain ⟨q, xs, us, _, _, _, _, _, _, z⟩ := hcs j c hj
    exact z
  have never : ∀ vs : List Value, vs.length = cs.length → (∀ (i' : Nat) (c : Zs), cs[i']? = some c → c.xs[i]? = vs[i']?) → False := fun vs hvl hv => by
    have hjl : j0 < cs.length := by have := (List.getElem?_eq_some_iff.mp hj0).1; omega
    have e3 := List.getElem?_eq_getElem hjl
    obtain ⟨q2, xs2, us2, a1, a2, a3, a4, a5, a6, a7⟩ := hcs j0 _ e3
    rw [hj0] at a1
    cases a1
    have hlen := a5.length
    rw [seq_inj I a4 sq0] at hlen
    have e5 := hv j0 _ e3
    rw [a6, List.getElem?_toArray, List.getElem?_eq_none_iff.mpr (by omega), List.getElem?_eq_getElem (show j0 < vs.length by omega)] at e5
    cases e5
  have fin : ∀ h', Stays z TO cs s.heap h' → L2.Inv X pins σ H { s with heap := h' } := fun h' stays => by
    refine I.turnedL (t' := s.toks) (ch := z :: TI :: TO :: its) (fun a o ha q => ?_) hf
    simp only [List.mem_cons, not_or] at ha
    refine stays a o ha.1 ha.2.2.1 (fun c hc e => ?_) q
    obtain ⟨j, hj⟩ := cmem c hc
    exact ha.2.2.2 (e ▸ List.mem_of_getElem? (hcit j c hj))
  rcases hz with hz | ⟨a, k, o, hz, ha⟩
  · exact pyNext_zs (k := i) hA DA cne (by omega) hz hTI hTO (ht.trans hcl.symm) src (fun vs h' hvl hv _ _ _ _ _ => (never vs hvl hv).elim) fun c h hx h' stays => ⟨rfl, fin h' stays⟩
  · exact pyNext_zs2 (n := i) hA DA cne (by omega) hz ha hTI hTO src (fun vs h' hvl hv _ _ _ _ _ => (never vs hvl hv).elim) fun c h hx h' stays => ⟨rfl, fin h' stays⟩
end
end ZN
namespace ZN
open PySem PySem.Spec PyProof.Rows L2
def RowOk (K : PySem.W.Frag) (H0 : Hp) (ks : List (Bool × Addr)) (i : Nat) (ws : List V) : Prop := ws.length = ks.length ∧ ∀ (j : Nat) (q : Bool × Addr) (xs : List V), ks[j]? = some q → SqK K H0 q.1 q.2 xs → ∃ x, xs[i]? = some x ∧ ws[j]? = some x
theorem sqK_ext {K : PySem.W.Frag} {H H' : Hp} (e : ∀ a o, H a = some o → H' a = some o) {b : Bool} {a : Addr} {xs : List V} (h : SqK K H b a xs) : SqK K H' b a xs := by
  cases b with
  | true => exact DL.sql_ext e h
  | false => exact DL.sqt_ext e h
section
variable {X : Cx} {pins : List (Addr × Obj)} {σ : L2.St} {A : Around} {z TI TO S : Addr} {its : List Addr} {ks : List (Bool × Addr)} {n : Nat} {H0 : Hp} {R : Result → Shared → Prop}
theorem lz_loop (hA : A.handled = none) (D : Ap z TI TO its ks) (hl : its.length = ks.length) (hne : ks ≠ []) (hn : ks.length ≤ 100) (hS : S ∉ z :: TI :: TO :: its) (hns : n ≤ sizeLine)
    (hall : ∀ (j : Nat) (q : Bool × Addr), ks[j]? = some q → ∃ xs, SqK X.K H0 q.1 q.2 xs ∧ n ≤ xs.length) (hend : ∃ (j : Nat) (q : Bool × Addr) (xs : List V), ks[j]? = some q ∧ SqK X.K H0 q.1 q.2 xs ∧ xs.length = n)
    (fin : ∀ acc H s, L2.Inv X pins σ H s → H S = some (.lst acc) → acc.length = n → (∀ b o, H0 b = some o → H b = some o) → (∀ j, j < n → ∃ T ws, acc[j]? = some (.ref T) ∧ H0 T = none ∧ H T = some (.tup ws) ∧ RowOk X.K H0 ks j ws) → R (.ok (.ret .none)) s) :
    ∀ (k i : Nat) (acc : List V) (H : Hp) (s : Shared), n - i = k → i ≤ n → L2.Inv X pins σ H s → H S = some (.lst acc) → acc.length = i → (∀ b o, H0 b = some o → H b = some o) → H0 S = none → (∀ j, j < i → ∃ T ws, acc[j]? = some (.ref T) ∧ H0 T = none ∧ H T = some (.tup ws) ∧ RowOk X.K H0 ks j ws) →
      ZSt z TI TO its ks i s.heap → (∀ b ∈ z :: TI :: TO :: its, FpOk X pins H b) → codeAny (model X.prog X.w) A (.builtin "list.extend.loop" ⟨[.ref S, .ref z, .none], []⟩) R s := by
  intro k
  induction k with
  | zero =>
    intro i acc H s hk hi I hq hlen ex h0S hrows st hf
    have hin : i = n := by omega
    subst hin
    refine codeAny_builtin PySem.F.entry_extend_loop ?_
    rw [Around.under_plainId PySem.F.plain_extend_loop _]
    show wpAny _ A.in1 (pyNext (.ref z) >>= _) _ _ s
    refine wpAny_bind (wpAny_mono (next_none (E := fun e s' => R (.error e) s') (A := A.in1) hA I D hl hne hn st hf ⟨fun j q h => ?_, ?_⟩) (fun r s' hr => ?_) fun e s' he => he)
    · obtain ⟨xs, a, _⟩ := hall j q h
      exact ⟨xs, sqK_ext ex a⟩
    · obtain ⟨j, q, xs, h1, h2, h3⟩ := hend
      exact ⟨j, q, xs, h1, sqK_ext ex h2, by omega⟩
    · obtain ⟨rfl, I'⟩ := hr
      exact wpAny_pure (fin acc H s' I' hq hlen ex hrows)
  | succ k ih =>
    intro i acc H s hk hi I hq hlen ex h0S hrows st hf
    refine codeAny_builtin PySem.F.entry_extend_loop ?_
    rw [Around.under_plainId PySem.F.plain_extend_loop _]
    show wpAny _ A.in1 (pyNext (.ref z) >>= _) _ _ s
    refine wpAny_bind (wpAny_mono (next_row (E := fun e s' => R (.error e) s') (A := A.in1) hA I D hl hne hn st hf fun j q h => ?_) (fun r s' hr => ?_) fun e s' he => he)
    · obtain ⟨xs, a, b⟩ := hall j q h
      exact ⟨xs, xs[i], sqK_ext ex a, List.getElem?_eq_getElem (by omega)⟩
    · obtain ⟨T, ws, rfl, I', hT, hTf, hwl, hws, st', hf'⟩ := hr
      have hST : S ≠ T := ne_of_none hq hT
      have hq' : upd H T (.tup ws) S = some (.lst acc) := by rw [upd_ne hST]; exact hq
      show wpAny _ A.in1 (updateSeq S (·.push (.ref T)) >>= _) _ _ _
      obtain ⟨zz, its', c, r2, hl2, e⟩ := I'.lstM hq'
      have ex' : ∀ b o, H0 b = some o → upd (upd H T (.tup ws)) S (.lst (acc ++ [.ref T])) b = some o := fun b o h => by
        rw [upd_ne (ne_of_none h h0S), upd_ne (ne_of_none (ex b o h) hT)]
        exact ex b o h
      refine wpAny_bind (wpAny_updateSeq e rfl (wpAny_pure ⟨plainId_quiet PySem.F.plain_extend_loop _, ?_⟩) (by rw [List.size_toArray]; omega) (by show (its'.toArray.push (.ref T)).size ≤ sizeLine + 1; rw [Array.size_push, List.size_toArray]; omega))
      refine ih (i + 1) (acc ++ [.ref T]) _ _ (by omega) (by omega) (I'.lset (its' := its' ++ [.ref T]) (t' := s'.toks) hq' e (by simp) (r2.append (.cons (show L2.RelV (.ref T) (.ref T) from rfl) .nil)) (by rw [List.length_append, List.length_singleton]; omega)) L2.upd_same (by rw [List.length_append, hlen]; rfl) ex' h0S (fun j hj => ?_) (st'.keep (fun b hb o q => (Heap.get?_update_other _ _ (fun z => hS (by rw [z]; exact hb))).trans q) fun b o q => ?_) fun b hb => ?_
      · by_cases hji : j < i
        · obtain ⟨T2, ws2, a1, a0, a2, a3⟩ := hrows j hji
          refine ⟨T2, ws2, by rw [List.getElem?_append_left (by omega)]; exact a1, a0, ?_, a3⟩
          have n1 : T2 ≠ S := fun z => by rw [z, hq] at a2; cases a2
          rw [upd_ne n1, upd_ne (ne_of_none a2 hT)]
          exact a2
        · have : j = i := by omega
          subst this
          refine ⟨T, ws, by rw [List.getElem?_append_right (by omega), hlen, Nat.sub_self]; rfl, ?_, by rw [upd_ne hST.symm, L2.upd_same], hwl, fun j' q xs h1 h2 => hws j' q xs h1 (sqK_ext ex h2)⟩
          cases q0 : H0 T with
          | none => rfl
          | some u => rw [ex _ _ q0] at hT; cases hT
      · by_cases hb : b = S
        · subst hb
          exact ⟨_, Heap.get?_update_self _ e rfl⟩
        · exact ⟨o, (Heap.get?_update_other _ _ (Ne.symm hb)).trans q⟩
      · have q := hf' b hb
        exact ⟨by rw [upd_ne fun z => hS (by rw [← z]; exact hb)]; exact q.1, q.2⟩
end
end ZN
namespace ZN
open PySem PySem.Spec PyProof.Rows L2
section
variable {X : Cx} {pins : List (Addr × Obj)} {σ : L2.St} {H1 : Hp} {s : Shared}
theorem zip_at {ks : List (Bool × Addr)} {E : Value → Shared → Prop} {Q : Value → Shared → Prop} (I : L2.Inv X pins σ H1 s) (hks : ks.length = 2 ∨ ks.length = 3) (hsq : ∀ q ∈ ks, ∃ xs, SqK X.K H1 q.1 q.2 xs)
    (h : ∀ (z TI TO : Addr) (its : List Addr) (s2 : Shared), L2.Inv X pins σ H1 s2 → Ap z TI TO its ks → its.length = ks.length → IsZp s2.heap z TI TO .none (.bool false) → ZSt z TI TO its ks 0 s2.heap → (∀ b ∈ z :: TI :: TO :: its, FpOk X pins H1 b) → Q (.ref z) s2) :
    wpAny (model X.prog X.w) X.A (call (.type "zip") (ks.map fun q => Value.ref q.2)) Q E s := by
  obtain ⟨ls, hll, hls⟩ : ∃ ls : List (Addr × Array Value), ls.length = ks.length ∧ ∀ (j : Nat) (l : Addr × Array Value), ls[j]? = some l → ∃ q, ks[j]? = some q ∧ l.1 = q.2 ∧ Shp q.1 s.heap l.1 l.2 := by
    refine list_of ks.length fun j hj => ?_
    have e1 := List.getElem?_eq_getElem hj
    generalize ks[j] = q at e1
    obtain ⟨xs, hx⟩ := hsq q (List.mem_of_getElem? e1)
    obtain ⟨us, rv, hs⟩ := seq_at I hx
    obtain ⟨b, a⟩ := q
    exact ⟨(a, us.toArray), (b, a), e1, rfl, hs⟩
  have em : (ks.map fun q => Value.ref q.2) = ls.map fun q => Value.ref q.1 := List.ext_getElem? fun j => by
    rw [List.getElem?_map, List.getElem?_map]
    cases hc : ls[j]? with
    | none =>
      rw [List.getElem?_eq_none_iff] at hc
      rw [List.getElem?_eq_none_iff.mpr (by omega)]
      rfl
    | some c =>
      obtain ⟨q, a, b, _⟩ := hls j c hc
      rw [a]
      show some (Value.ref q.2) = some (Value.ref c.1)
      rw [b]
  have lt : ∀ l ∈ ls, l.1 < s.heap.objs.size := fun l hl => by
    obtain ⟨j, hj⟩ := List.mem_iff_getElem?.mp hl
    obtain ⟨⟨b, a⟩, _, _, d⟩ := hls j l hj
    cases b with
    | true => obtain ⟨o, e, _⟩ := d; exact Heap.lt_size e
    | false => obtain ⟨o, e, _⟩ := d; exact Heap.lt_size e
  rw [em]
  refine call_zs (few_of (by rw [List.length_map, hll]; exact hks)) (by omega) (fun l hl => ?_) fun h' cs ecs hz hTI hTO hsr hk => ?_
  · obtain ⟨j, hj⟩ := List.mem_iff_getElem?.mp hl
    obtain ⟨⟨b, a⟩, _, _, d⟩ := hls j l hj
    cases b with
    | true => exact .inl d
    | false => exact .inr d
  have I2 : L2.Inv X pins σ H1 { s with heap := h' } := I.kept (t' := s.toks) hk
  have hcl : cs.length = ks.length := by rw [ecs, made_len, hll]
  have AP := made_apart (h := s.heap) lt
  rw [← ecs] at AP
  have er : refsOf cs = (cs.map (·.it)).map Value.ref := by
    unfold refsOf
    rw [List.map_map]
    rfl
  have hat : ∀ (j : Nat) (c : Zs), cs[j]? = some c → c.it = s.heap.objs.size + j ∧ ∃ q, ks[j]? = some q ∧ c.l = q.2 ∧ Shp q.1 s.heap c.l c.xs := fun j c hc => by
    rw [ecs] at hc
    obtain ⟨a, l, b, d, f⟩ := made_get hc
    obtain ⟨q, x1, x2, x3⟩ := hls j l b
    refine ⟨a, q, x1, d.trans x2, ?_⟩
    rw [d, f]
    exact x3
  have APk : Ap (s.heap.objs.size + ls.length + 2) (s.heap.objs.size + ls.length) (s.heap.objs.size + ls.length + 1) (cs.map (·.it)) ks := by
    refine ⟨AP.tz, AP.oz, AP.to, fun a ha => ?_, fun i j a b h1 h2 e => ?_, fun q hq => ?_⟩
    · obtain ⟨c, hc, rfl⟩ := List.mem_map.mp ha
      exact AP.i c hc
    · rw [List.getElem?_map, Option.map_eq_some_iff] at h1 h2
      obtain ⟨c, hc, rfl⟩ := h1
      obtain ⟨d, hd, rfl⟩ := h2
      exact AP.nd i j c d hc hd e
    · obtain ⟨j, hj⟩ := List.mem_iff_getElem?.mp hq
      have e3 := List.getElem?_eq_getElem (show j < cs.length by have := (List.getElem?_eq_some_iff.mp hj).1; omega)
      obtain ⟨_, q2, a, b, _⟩ := hat j _ e3
      rw [hj] at a
      cases a
      have r := AP.l _ (List.mem_of_getElem? e3)
      rw [b] at r
      refine ⟨r.1, r.2.1, fun a ha => ?_⟩
      obtain ⟨c, hc, rfl⟩ := List.mem_map.mp ha
      exact r.2.2 c hc
  have kne : ks ≠ [] := fun e => by
    rw [e] at hks
    simp at hks
  refine h _ _ _ _ _ I2 APk (by rw [List.length_map, hcl]) hz ⟨.inl hz, by rw [← er]; exact hTI, ⟨_, by rw [List.length_map, hcl], hTO⟩, fun j q it h1 h2 => ?_⟩ fun c hc => ?_
  · rw [List.getElem?_map, Option.map_eq_some_iff] at h2
    obtain ⟨c, hc, rfl⟩ := h2
    have sr := hsr c (List.mem_of_getElem? hc)
    obtain ⟨_, q2, a, b, d⟩ := hat j c hc
    rw [h1] at a
    cases a
    obtain ⟨kb, l⟩ := q
    cases kb with
    | true =>
      rcases sr with ⟨x1, x2⟩ | ⟨x1, x2⟩
      · rw [b] at x1
        exact x1
      · exfalso
        obtain ⟨o1, y1, y2, _⟩ := d
        obtain ⟨o2, y3, y4, _⟩ := x2
        rw [hk _ _ y1] at y3
        cases y3
        rw [y2] at y4
        exact absurd y4 (by simp)
    | false =>
      rcases sr with ⟨x1, x2⟩ | ⟨x1, x2⟩
      · exfalso
        obtain ⟨o1, y1, y2, _⟩ := d
        obtain ⟨o2, y3, y4, _⟩ := x2
        rw [hk _ _ y1] at y3
        cases y3
        rw [y2] at y4
        exact absurd y4 (by simp)
      · rw [b] at x1
        exact x1
  · have hle : s.heap.objs.size ≤ c := by
      rcases List.mem_cons.mp hc with z | hc
      · rw [z]; exact Nat.le_trans (Nat.le_add_right _ _) (Nat.le_add_right _ _)
      rcases List.mem_cons.mp hc with z | hc
      · rw [z]; exact Nat.le_add_right _ _
      rcases List.mem_cons.mp hc with z | hc
      · rw [z]; exact Nat.le_trans (Nat.le_add_right _ _) (Nat.le_add_right _ _)
      obtain ⟨c', hc', rfl⟩ := List.mem_map.mp hc
      obtain ⟨j, hj⟩ := List.mem_iff_getElem?.mp hc'
      rw [(hat j c' hj).1]
      exact Nat.le_add_right _ _
    exact I.fpOk hle (I.hok.fresh hle)
end
/-- list(zip(..)) -/
def tListZip (K : PySem.W.Frag) (ta : TA) : TE := fun σ H Q => ta σ H fun vs H1 => ∃ (ks : List (Bool × Addr)) (n : Nat), vs = ks.map (fun q => V.ref q.2) ∧ (ks.length = 2 ∨ ks.length = 3) ∧ n ≤ sizeLine ∧
  (∀ (j : Nat) (q : Bool × Addr), ks[j]? = some q → ∃ xs, SqK K H1 q.1 q.2 xs ∧ n ≤ xs.length) ∧ (∃ (j : Nat) (q : Bool × Addr) (xs : List V), ks[j]? = some q ∧ SqK K H1 q.1 q.2 xs ∧ xs.length = n) ∧
  ∀ S H2 acc, H1 S = none → (∀ b o, H1 b = some o → H2 b = some o) → H2 S = some (.lst acc) → acc.length = n → (∀ j, j < n → ∃ T ws, acc[j]? = some (.ref T) ∧ H1 T = none ∧ H2 T = some (.tup ws) ∧ RowOk K H1 ks j ws) → Q (.ref S) H2
section
variable {X : Cx} {e : Expr} {es : List Expr} {ta : TA} {p p2 pos pos2 : Pos}
theorem pe_listZip (hc : X.calm = true) (hgl : Gl X "list") (hml : X.mg "list" = none) (hgz : Gl X "zip") (hmz : X.mg "zip" = none) (ha : PA X (e :: es) ta)
    (hs : starEach (e :: es) X.env = (false, eval e X.env) :: starEach es X.env := by rfl) (hpl : (backTo pos2 (starEach es X.env)).any (·.1) = false := by rfl)
    (hs2 : starEach [Expr.Call (.Name "zip" p2) (e :: es) [] pos2] X.env = (false, eval (.Call (.Name "zip" p2) (e :: es) [] pos2) X.env) :: starEach [] X.env := by rfl) :
    PE X (.Call (.Name "list" p) [.Call (.Name "zip" p2) (e :: es) [] pos2] [] pos) (tListZip X.K ta) := by
  refine ⟨fun pins s σ H Q I h => ?_⟩
  refine Call_ (ld_blt I hgl hml PyProof.Rows.boot_list (PyProof.Rows.callWith_type1 ?_ hs2 rfl))
  rw [hs2]
  show wpAny _ _ (spliced ((false, eval (.Call (.Name "zip" p2) (e :: es) [] pos2) X.env) :: backTo pos (starEach [] X.env))) _ _ s
  refine Calls.spliced_cons ?_
  refine Call_ (ld_blt I hgz hmz PyProof.Rows.boot_zip (PyProof.Rows.callWith_type1 (thn (ha.run pos2 pins s σ H _ I h) fun us s1 ⟨vs, H1, I1, r1, q1⟩ => ?_) hs hpl))
  obtain ⟨ks, n, ev, hks, hns, hall, hend, hQ⟩ := q1
  subst ev
  have eu := vals_refs r1
  subst eu
  have kne : ks ≠ [] := fun e => by
    rw [e] at hks
    simp at hks
  refine zip_at I1 hks (fun q hq => ?_) fun z TI TO its s2 I2 D hl hz0 st hf => ?_
  · obtain ⟨j, hj⟩ := List.mem_iff_getElem?.mp hq
    obtain ⟨xs, a, _⟩ := hall j q hj
    exact ⟨xs, a⟩
  refine Calls.spliced_nil ?_
  have hT : s2.TypeIs (.ref z) "zip" := by
    rcases st.1 with q | ⟨_, _, _, q, _⟩ <;> exact ⟨_, q, rfl⟩
  have flt : ∀ b ∈ z :: TI :: TO :: its, ∃ o, s2.heap.get? b = some o := fun c hcm => by
    obtain ⟨hz, hTI, ⟨ts, _, hTO⟩, hi⟩ := st
    rcases List.mem_cons.mp hcm with q | hc
    · rw [q]; rcases hz with hz | ⟨_, _, _, hz, _⟩ <;> exact ⟨_, hz⟩
    rcases List.mem_cons.mp hc with q | hc
    · rw [q]; exact ⟨_, hTI⟩
    rcases List.mem_cons.mp hc with q | hc
    · rw [q]; exact ⟨_, hTO⟩
    obtain ⟨j, hj⟩ := List.mem_iff_getElem?.mp hc
    have hjl : j < ks.length := by have := (List.getElem?_eq_some_iff.mp hj).1; omega
    have q := hi j _ c (List.getElem?_eq_getElem hjl) hj
    generalize ks[j] = kq at q
    obtain ⟨b, a⟩ := kq
    cases b with
    | true => obtain ⟨o, e, _⟩ := q; exact ⟨o, e⟩
    | false => obtain ⟨o, e, _⟩ := q; exact ⟨o, e⟩
  have hSf : s2.heap.objs.size ∉ z :: TI :: TO :: its := fun hm => by
    obtain ⟨o, ho⟩ := flt _ hm
    exact Nat.lt_irrefl _ (Heap.lt_size ho)
  have hSz : s2.heap.objs.size ≠ z := fun q => hSf (by rw [q]; simp)
  have hA := I.ok.hd hc
  refine callType_codes (Q₁ := fun obj s₁ => obj = .ref s2.heap.objs.size ∧ s₁ = { s2 with heap := s2.heap.push { cls := .type "list", data := .seq #[] } }) PySem.F.called_list (PySem.F.typeCall_list_1 _) PySem.F.entry_list_init
    (code_list_new _ ⟨rfl, rfl⟩) fun obj s₁ h₁ => ?_
  obtain ⟨rfl, rfl⟩ := h₁
  have hS : (s2.heap.push { cls := .type "list", data := .seq #[] }).get? s2.heap.objs.size = some { cls := .type "list", data := .seq #[] } := Heap.get?_push_size _ rfl
  refine ⟨⟨_, hS, rfl⟩, PySem.F.args_list_init_2 _ _, ?_⟩
  have fr : H1 s2.heap.objs.size = none := I2.hok.fresh (Nat.le_refl _)
  have I3 : L2.Inv X pins σ (upd H1 s2.heap.objs.size (.lst [])) { s2 with heap := s2.heap.push { cls := .type "list", data := .seq #[] } } := I2.lnew (its := []) (t' := s2.toks) .nil (Nat.zero_le _)
  show wpAny _ _ (do let old ← Builtin.List.listItems (.ref s2.heap.objs.size); Builtin.List.listUpdate (.ref s2.heap.objs.size) (fun _ => #[]); letGo old.toList.reverse; Builtin.List.listExtendWith (.ref s2.heap.objs.size) (.ref z) .none) _ _ _
  refine wpAny_bind ?_
  unfold Builtin.List.listItems
  refine wpAny_bind (wpAny_seqItems hS rfl (wpAny_pure ?_))
  show wpAny _ _ (updateSeq s2.heap.objs.size (fun _ => #[]) >>= fun _ => letGo (#[] : Array Value).toList.reverse >>= fun _ => Builtin.List.listExtendWith (.ref s2.heap.objs.size) (.ref z) .none) _ _ _
  refine wpAny_bind (wpAny_updateSeq hS rfl ?_)
  have I4 := I3.lset (f := fun _ => #[]) (its := []) (its' := []) (ys := []) (t' := s2.toks) L2.upd_same hS rfl .nil (Nat.zero_le _)
  rw [upd_upd] at I4
  refine wpAny_bind (wpAny_letGo ?_)
  have kp : ∀ (g g' : Array Value → Array Value) b o, b ≠ s2.heap.objs.size → s2.heap.get? b = some o → (((s2.heap.push { cls := .type "list", data := .seq #[] }).update s2.heap.objs.size (Obj.mapSeq fun _ => #[])).get? b = some o) := fun g g' b o hb e => (Heap.get?_update_other _ _ (Ne.symm hb)).trans (Heap.get?_push_of_some _ e)
  have st4 : ZSt z TI TO its ks 0 ((s2.heap.push { cls := .type "list", data := .seq #[] }).update s2.heap.objs.size (Obj.mapSeq fun _ => #[])) := st.keep (fun b hb o e => kp id id b o (fun q => hSf (by rw [← q]; exact hb)) e) fun b o e => ⟨o, kp id id b o (Nat.ne_of_lt (Heap.lt_size e)) e⟩
  have hf4 : ∀ b ∈ z :: TI :: TO :: its, FpOk X pins (upd H1 s2.heap.objs.size (.lst [])) b := fun b hb => ⟨by rw [upd_ne fun q => hSf (by rw [← q]; exact hb)]; exact (hf b hb).1, (hf b hb).2⟩
  have hz4 : IsZp ((s2.heap.push { cls := .type "list", data := .seq #[] }).update s2.heap.objs.size (Obj.mapSeq fun _ => #[])) z TI TO .none (.bool false) := by
    have hb : z ≠ s2.heap.objs.size := Ne.symm hSz
    exact kp id id z _ hb hz0
  have e4 := Heap.get?_update_self (Obj.mapSeq fun _ => #[]) hS rfl
  generalize (s2.heap.push { cls := .type "list", data := .seq #[] }).update s2.heap.objs.size (Obj.mapSeq fun _ => #[]) = h4 at I4 st4 hz4 e4 ⊢
  generalize hSS : s2.heap.objs.size = S at hSf hSz fr I4 hf4 e4 ⊢
  have hT4 : ({ s2 with heap := h4 } : Shared).TypeIs (.ref z) "zip" := ⟨_, hz4, rfl⟩
  unfold Builtin.List.listExtendWith
  refine wpAny_bind (wpAny_typeOf hT4 ?_)
  have h1 : Builtin.List.listSameRef (.ref S) (.ref z) = false := by simp [Builtin.List.listSameRef, hSz]
  have h2 : (Value.type "zip" == Value.type "list") = false := by decide
  have h3 : (Value.type "zip" == Value.type "tuple") = false := by decide
  simp only [h1, h2, h3, Bool.or_false, Bool.false_eq_true, if_false]
  refine wpAny_bind (wpAny_pyIter_zip hz4 ?_)
  refine wpAny_bind (wpAny_holding ?_)
  unfold Builtin.List.listLengthHint
  refine wpAny_bind (wpAny_specialOf hT4 zip_no_len ?_)
  show wpAny _ _ (specialOf (Value.ref z) (Str.ofString "__length_hint__") >>= _) _ _ _
  refine wpAny_bind (wpAny_specialOf hT4 zip_no_hint ?_)
  refine wpAny_pure ?_
  show wpAny _ _ (rule "list.extend.makes-room" >>= fun _ => Builtin.List.listTouch (.ref S) >>= fun _ => again (.builtin "list.extend.loop" ⟨[.ref S, .ref z, .none], []⟩)) _ _ _
  refine wpAny_bind (wpAny_rule ?_)
  refine wpAny_bind ?_
  show wpAny _ _ (updateSeq S (·.push .none) >>= fun _ => updateSeq S (·.pop)) _ _ _
  obtain ⟨zz, its5, c5, r5, hl5, e5⟩ := I4.lstM L2.upd_same
  cases r5
  refine wpAny_bind (wpAny_updateSeq e5 rfl ?_)
  have I5 := I4.lset (f := (·.push Value.none)) (its' := [Value.none]) (ys := [.non]) (t' := s2.toks) L2.upd_same e5 (by simp) (.cons rfl .nil) (by rw [List.length_singleton, sizeLine_eq]; decide)
  have e6' := Heap.get?_update_self (Obj.mapSeq (·.push Value.none)) e5 rfl
  obtain ⟨z4, its6, k6, r6, hl6, e6⟩ := I5.lstM L2.upd_same
  obtain ⟨u6, rfl, ru6⟩ := r6.one
  refine wpAny_updateSeq e6 rfl ?_ (by show 1 ≤ sizeLine; rw [sizeLine_eq]; decide) (by show 0 ≤ sizeLine + 1; exact Nat.zero_le _)
  have I6 := I5.lset (f := (·.pop)) (its := [u6]) (its' := []) (ys := []) (t' := s2.toks) L2.upd_same e6 (by rfl) .nil (Nat.zero_le _)
  rw [upd_upd, upd_upd] at I6
  refine wpAny_pure ⟨plainId_quiet PySem.F.plain_extend_loop _, ?_⟩
  have kp6 : ∀ b o, b ≠ S → h4.get? b = some o → ((h4.update S (Obj.mapSeq (·.push Value.none))).update S (Obj.mapSeq (·.pop))).get? b = some o := fun b o hb e => (Heap.get?_update_other _ _ (Ne.symm hb)).trans ((Heap.get?_update_other _ _ (Ne.symm hb)).trans e)
  refine lz_loop (A := X.A.in1) (R := wants (fun r s₂ => r = .none ∧ EP X pins σ Q (.ref S) s₂) X.xe) (H0 := H1) (n := n) hA D hl kne (by omega) hSf hns hall hend (fun acc H s I' h1 h2 h3 h4 => ⟨rfl, .ref S, H, I', rfl, hQ S H acc fr h3 h1 h2 h4⟩) n 0 [] _ _ rfl (Nat.zero_le _) I6 L2.upd_same rfl (fun b o e => by rw [upd_ne (ne_of_none e fr)]; exact e) fr (fun j hj => absurd hj (by omega))
    (st4.keep (fun b hb o e => kp6 b o (fun q => hSf (by rw [← q]; exact hb)) e) fun b o e => ?_) hf4
  by_cases hb : b = S
  · subst hb
    exact ⟨_, Heap.get?_update_self _ e6 rfl⟩
  · exact ⟨o, kp6 b o hb e⟩
end
end ZN

/-! DOb: list(x), list(zip(..)), sums, greatest and least, what is done to lists. -/
namespace DL
open PySem PySem.Spec PyProof.Rows L2
/-! ### list(x) -/
def fListOf (m : Bool) : DN := fun xs κ Q => match xs with
  | [d] => ∃ ys, ((∃ k, view d κ = some (k, ys) ∧ (k = .lst ∨ k = .tup ∨ k = .klst))) ∧ fNew m .lst ys κ Q
  | _ => False
theorem sim_listOf {C : Ctx} (m : Bool) : SimN C (fListOf m) (fun xs H Q => ∃ p ys, xs = [.ref p] ∧ (SqL C.K H p ys ∨ SqT C.K H p ys) ∧ ∀ l, H l = none → Q (.ref l) (upd H l (.lst ys))) := by
  intro F ρ κ H xs vs QD Q S r h P
  match xs, h with
  | [d], ⟨ys, ⟨k, h1, h2⟩, h3⟩ =>
    obtain ⟨v, rfl, rv⟩ := repL1 r
    obtain ⟨a, ws, rfl, hk, rl⟩ := view_at S rv h1
    refine ⟨a, ws, rfl, ?_, new_lst S rl h3 P⟩
    rcases h2 with rfl | rfl | rfl
    · exact .inl (SqL.of hk)
    · exact .inr hk
    · exact .inl hk
/-! ### sums, greatest, least -/
def fSumI : DN := fun xs κ Q => match xs with
  | [d] => ∃ ns : List Int, view d κ = some (.lst, ns.map D.int) ∧ Q (.int ns.sum) κ
  | _ => False
theorem sim_sumI {C : Ctx} : SimN C fSumI (rSum C.K) := by
  intro F ρ κ H xs vs QD Q S r h P
  match xs, h with
  | [d], ⟨ns, h1, h2⟩ =>
    obtain ⟨v, rfl, rv⟩ := repL1 r
    obtain ⟨a, ws, rfl, hk, rl⟩ := view_at S rv h1
    have e := rl.intsV
    subst e
    exact ⟨a, ns, rfl, SqL.of hk, P _ _ _ _ _ _ (Ext.refl _ _) S (.int _) h2⟩
def fMaxL : DN := fun xs κ Q => match xs with
  | [d] => ∃ ns : List Int, view d κ = some (.lst, ns.map D.int) ∧ 0 < ns.length ∧ ∀ m, m ∈ ns → (∀ y, y ∈ ns → y ≤ m) → Q (.int m) κ
  | _ => False
theorem sim_maxL {C : Ctx} : SimN C fMaxL (rMax C.K) := by
  intro F ρ κ H xs vs QD Q S r h P
  match xs, h with
  | [d], ⟨ns, h1, h0, h2⟩ =>
    obtain ⟨v, rfl, rv⟩ := repL1 r
    obtain ⟨a, ws, rfl, hk, rl⟩ := view_at S rv h1
    have e := rl.intsV
    subst e
    exact ⟨a, ns, rfl, SqL.of hk, h0, fun m hm hy => P _ _ _ _ _ _ (Ext.refl _ _) S (.int _) (h2 m hm hy)⟩
def fMinL : DN := fun xs κ Q => match xs with
  | [d] => ∃ ns : List Int, view d κ = some (.lst, ns.map D.int) ∧ 0 < ns.length ∧ ∀ m, m ∈ ns → (∀ y, y ∈ ns → m ≤ y) → Q (.int m) κ
  | _ => False
theorem sim_minL {C : Ctx} : SimN C fMinL (rMin C.K) := by
  intro F ρ κ H xs vs QD Q S r h P
  match xs, h with
  | [d], ⟨ns, h1, h0, h2⟩ =>
    obtain ⟨v, rfl, rv⟩ := repL1 r
    obtain ⟨a, ws, rfl, hk, rl⟩ := view_at S rv h1
    have e := rl.intsV
    subst e
    exact ⟨a, ns, rfl, SqL.of hk, h0, fun m hm hy => P _ _ _ _ _ _ (Ext.refl _ _) S (.int _) (h2 m hm hy)⟩
/-! ### what is done to a list -/
def dBM0 (T : String) (f : D1) (a : DE) : DE := fun δ κ X Q => a δ κ X fun x κ1 => isSeq T x κ1 ∧ f x κ1 Q
theorem lift_bm0 {K : PySem.W.Frag} {mg : Str → Option Value} {W : WX} {T : String} {f : D1} {r : V → List V → Hp → VK → Prop} {a : DE} (hs : Sim1 ⟨K, mg⟩ f (fun x H Q => r x [] H Q)) {σ : L2.St} {H : Hp} {Q : VK} (h : liftE ⟨K, mg⟩ W (dBM0 T f a) σ H Q) : tBM0 K T r (liftE ⟨K, mg⟩ W a) σ H Q := by
  obtain ⟨F, ρ, κ, δ, XD, QD, S, R, h, P, PX⟩ := h
  exact ⟨F, ρ, κ, δ, XD, _, S, R, h, fun F1 ρ1 κ1 H1 x v e1 S1 R1 ⟨h0, h1⟩ => ⟨isSeq_at S1 R1 h0, hs _ _ _ _ _ _ _ _ S1 R1 h1 (P.ext e1)⟩, PX⟩
def fClear : D1 := fun x κ Q => ∃ n xs, x = .cell n ∧ κ n = some (.live .lst xs) ∧ Q .non (kset κ n (.live .lst []))
theorem sim_clear {C : Ctx} : Sim1 C fClear (fun x H Q => rClear x [] H Q) := by
  intro F ρ κ H x v QD Q S r ⟨n, xs, hx, h1, h2⟩ P
  subst hx
  obtain ⟨a, ws, rfl, h4, h5, h6, h7⟩ := cell_lst S r h1
  exact ⟨a, ws, rfl, rfl, h5, P _ _ _ _ _ _ (Ext.refl _ _) (h7 _ _ .nil) .non h2⟩
def fReverse : D1 := fun x κ Q => ∃ n xs, x = .cell n ∧ κ n = some (.live .lst xs) ∧ Q .non (kset κ n (.live .lst xs.reverse))
theorem sim_reverse {C : Ctx} : Sim1 C fReverse (fun x H Q => rReverse x [] H Q) := by
  intro F ρ κ H x v QD Q S r ⟨n, xs, hx, h1, h2⟩ P
  subst hx
  obtain ⟨a, ws, rfl, h4, h5, h6, h7⟩ := cell_lst S r h1
  exact ⟨a, ws, rfl, rfl, h5, P _ _ _ _ _ _ (Ext.refl _ _) (h7 _ _ (RepL.reverse h6)) .non h2⟩
def fPop : D1 := fun x κ Q => ∃ n xs d, x = .cell n ∧ κ n = some (.live .lst (xs ++ [d])) ∧ Q d (kset κ n (.live .lst xs))
theorem repL_snoc {C : Ctx} {F : Hp} {ρ : Loc0} : ∀ {xs : List D} {d : D} {vs : List V}, RepL C F ρ (xs ++ [d]) vs → ∃ ws v, vs = ws ++ [v] ∧ RepL C F ρ xs ws ∧ Rep C F ρ d v
  | [], _, _, .cons h .nil => ⟨[], _, rfl, .nil, h⟩
  | x :: xs, d, _, .cons h t => by
    obtain ⟨ws, v, rfl, a, b⟩ := repL_snoc (xs := xs) t
    exact ⟨_ :: ws, v, rfl, .cons h a, b⟩
theorem sim_pop {C : Ctx} : Sim1 C fPop (fun x H Q => rPop x [] H Q) := by
  intro F ρ κ H x v QD Q S r ⟨n, xs, d, hx, h1, h2⟩ P
  subst hx
  obtain ⟨a, ws, rfl, h4, h5, h6, h7⟩ := cell_lst S r h1
  obtain ⟨us, u, rfl, r1, r2⟩ := repL_snoc h6
  refine ⟨a, us ++ [u], u, rfl, rfl, h5, by simp, ?_⟩
  rw [List.dropLast_concat]
  exact P _ _ _ _ _ _ (Ext.refl _ _) (h7 _ _ r1) r2 h2
section
variable {X : Cx} {W : WX} {o e : Expr} {es : List Expr} {a : DE} {as : DA} {apos cpos : Pos}
theorem pd_clear (ho : PED X W o a) (hbase : attributeBase o "clear" X.env (eval o X.env) = eval o X.env := by rfl) (hline : (apos.endLine == cpos.line) = true := by rfl) : PED X W (.Call (.Attribute o "clear" apos) [] [] cpos) (dBM0 "list" fClear a) :=
  pe_weak (pe_bm0 PySem.F.plainAttrs_list PySem.F.slot_list_clear PySem.F.type_list_clear mt_clear ho hbase hline) fun _ _ _ => lift_bm0 sim_clear
theorem pd_reverse (ho : PED X W o a) (hbase : attributeBase o "reverse" X.env (eval o X.env) = eval o X.env := by rfl) (hline : (apos.endLine == cpos.line) = true := by rfl) : PED X W (.Call (.Attribute o "reverse" apos) [] [] cpos) (dBM0 "list" fReverse a) :=
  pe_weak (pe_bm0 PySem.F.plainAttrs_list PySem.F.slot_list_reverse PySem.F.type_list_reverse mt_reverse ho hbase hline) fun _ _ _ => lift_bm0 sim_reverse
theorem pd_pop0 (ho : PED X W o a) (hbase : attributeBase o "pop" X.env (eval o X.env) = eval o X.env := by rfl) (hline : (apos.endLine == cpos.line) = true := by rfl) : PED X W (.Call (.Attribute o "pop" apos) [] [] cpos) (dBM0 "list" fPop a) :=
  pe_weak (pe_bm0 PySem.F.plainAttrs_list PySem.F.slot_list_pop PySem.F.type_list_pop mt_pop ho hbase hline) fun _ _ _ => lift_bm0 sim_pop
end
/-! ### extend, by a list in a cell too -/
def fExtV : D1N := fun x ds κ Q => match x, ds with
  | .cell n, [d] => ∃ xs ys, κ n = some (.live .lst xs) ∧ view d κ = some (.lst, ys) ∧ xs.length + ys.length ≤ sizeLine ∧ Q .non (kset κ n (.live .lst (xs ++ ys)))
  | _, _ => False
theorem sim_extV {C : Ctx} : Sim1N C fExtV rExtend := by
  intro F ρ κ H x v ds vs QD Q S rx rd h P
  match x, ds, h with
  | .cell n, [d], ⟨xs, ys, h1, hv, h2, h3⟩ =>
    obtain ⟨a, ws, rfl, h4, h5, h6, h7⟩ := cell_lst S rx h1
    obtain ⟨w, rfl, rw'⟩ := repL1 rd
    obtain ⟨b, us, rfl, hk, rl⟩ := view_at S rw' hv
    exact ⟨a, b, ws, us, rfl, rfl, h5, hk, by rw [← h6.length, ← rl.length]; exact h2, P _ _ _ _ _ _ (Ext.refl _ _) (h7 _ _ (h6.append rl)) .non h3⟩
section
variable {X : Cx} {W : WX} {o e : Expr} {es : List Expr} {a : DE} {as : DA} {apos cpos : Pos}
theorem pd_extV (ho : PED X W o a) (ha : PAD X W (e :: es) as) (hbase : attributeBase o "extend" X.env (eval o X.env) = eval o X.env := by rfl)
    (hfew : ((backTo cpos (starEach (e :: es) X.env)).all (fun x => !x.1) && (backToKw cpos (keywordEach [] X.env)).all (fun x => x.1.isSome) && decide ((e :: es).length + ([] : List Keyword).length + (if ([] : List Keyword).isEmpty then 0 else 1) < 30)) = true := by rfl)
    (hline : (apos.endLine == cpos.line) = true := by rfl) (hs : starEach (e :: es) X.env = (false, eval e X.env) :: starEach es X.env := by rfl) (hplain : (backTo cpos (starEach es X.env)).any (·.1) = false := by rfl) :
    PED X W (.Call (.Attribute o "extend" apos) (e :: es) [] cpos) (dBM "list" fExtV a as) :=
  pe_weak (pe_bm PySem.F.plainAttrs_list PySem.F.slot_list_extend PySem.F.type_list_extend mt_extend ho ha hbase hfew hline hs hplain) fun _ _ _ => lift_bm sim_extV
end
/-! ### slices of tuples -/
def fSlT (x : D) (lo hi : Option Int) (κ : Kap) (Q : DQ) : Prop := ∃ xs, x = .node .tup xs ∧ Q (.node .tup (cutD xs lo hi)) κ
def dSlT (a : DE) (lo hi : DO) : DE := fun δ κ X Q => a δ κ X fun x κ1 => lo δ κ1 X fun i κ2 => hi δ κ2 X fun j κ3 => fSlT x i j κ3 Q
theorem cutD_whole {xs : List D} {lo hi : Option Int} (h : HT.sIx xs.length 0 lo = 0 ∧ HT.sIx xs.length xs.length hi = xs.length) : cutD xs lo hi = xs := by
  unfold cutD
  rw [h.1, h.2, Nat.sub_zero]
  exact List.take_length
theorem pd_slT {X : Cx} {W : WX} {e1 : Expr} {lo hi : Option Expr} {a : DE} {dl dh : DO} {pos p2 : Pos} (ha : PED X W e1 a) (hl : POD X W lo dl) (hh : POD X W hi dh) : PED X W (.Subscript e1 (.Slice lo hi none p2) pos) (dSlT a dl dh) :=
  pe_weak (pe_slice sl_tupA ha hl hh) fun σ H Q ⟨F, ρ, κ, δ, XD, QD, S, R, h, P, PX⟩ =>
  ⟨F, ρ, κ, δ, XD, _, S, R, h, fun F1 ρ1 κ1 H1 x v e1 S1 R1 h1 => ⟨F1, ρ1, κ1, δ, XD, _, S1, R.ext e1, h1, fun F2 ρ2 κ2 H2 i e2 S2 h2 => ⟨F2, ρ2, κ2, δ, XD, _, S2, R.ext (e1.trans e2), h2, fun F3 ρ3 κ3 H3 j e3 S3 h3 => by
    have e123 := e1.trans (e2.trans e3)
    obtain ⟨xs, rfl, hq⟩ := h3
    have R3 := R1.ext (e2.trans e3)
    obtain ⟨p, vs, rfl, hk, rl⟩ := view_at (k := .tup) (xs := xs) S3 R3 rfl
    refine ⟨p, vs, rfl, hk, fun hw => ?_, fun _ q hq1 => ?_⟩
    · rw [← rl.length] at hw
      rw [cutD_whole hw] at hq
      exact P _ _ _ _ _ _ e123 S3 R3 hq
    · obtain ⟨ex, S4⟩ := S3.laid (p := q) (o := .tup (cutV vs i j)) hq1
      exact P _ _ _ _ _ _ (e123.trans ex) S4 (.node (k := .tup) (.inl (.inl upd_same)) ((cut_at rl i j).ext ex)) hq, PX.ext (e1.trans e2)⟩, PX.ext e1⟩, PX⟩
/-! ### list(zip(..)) -/
theorem StR.grow {C : Ctx} {F : Hp} {ρ : Loc0} {κ : Kap} {H H2 : Hp} (S : StR C F ρ κ H) (e : ∀ b o, H b = some o → H2 b = some o) : ∃ F2, Ext F ρ F2 ρ ∧ StR C F2 ρ κ H2 ∧ ∀ b o, H b = none → H2 b = some o → F2 b = some o := by
  have at_ : ∀ b o, H b = none → H2 b = some o → (match F b with | some o => some o | none => (match H b with | none => H2 b | some _ => none)) = some o := fun b o h1 h2 => by
    have : F b = none := by
      cases q : F b with
      | none => rfl
      | some u => rw [S.sub b u q] at h1; cases h1
    rw [this, h1]
    exact h2
  refine ⟨fun b => match F b with | some o => some o | none => (match H b with | none => H2 b | some _ => none), ?_, ?_, at_⟩
  · exact ⟨fun a o h => by show (match F a with | some o => some o | none => _) = some o; rw [h], fun _ _ h => h⟩
  · have ex : Ext F ρ (fun b => match F b with | some o => some o | none => (match H b with | none => H2 b | some _ => none)) ρ := ⟨fun a o h => by show (match F a with | some o => some o | none => _) = some o; rw [h], fun _ _ h => h⟩
    refine ⟨fun a o h => ?_, fun n k xs h => ?_, S.inj, S.free, S.fin⟩
    · cases q : F a with
      | some u =>
        have h' : (match F a with | some o => some o | none => (match H a with | none => H2 a | some _ => none)) = some o := h
        rw [q] at h'
        cases h'
        exact e _ _ (S.sub _ _ q)
      | none =>
        have h' : (match F a with | some o => some o | none => (match H a with | none => H2 a | some _ => none)) = some o := h
        rw [q] at h'
        cases q2 : H a with
        | none => rw [q2] at h'; exact h'
        | some u => rw [q2] at h'; cases h'
    · obtain ⟨a, vs, h1, h2, h3, h4⟩ := S.live n k xs h
      obtain ⟨u, hu⟩ := h3.is
      refine ⟨a, vs, h1, ?_, h3.same ((e _ _ hu).trans hu.symm), h4.ext ex⟩
      show (match F a with | some o => some o | none => (match H a with | none => H2 a | some _ => none)) = none
      rw [h2, hu]
def dListZip (as : DA) : DE := fun δ κ X Q => as δ κ X (zQ fun items _ κ' => items.length ≤ sizeLine ∧ Q (.node .lst items) κ')
section
variable {X : Cx} {W : WX} {e : Expr} {es : List Expr} {as : DA} {p p2 pos pos2 : Pos}
theorem pd_listZip (hc : X.calm = true) (hml : X.mg "list" = none) (hmz : X.mg "zip" = none) (ha : PAD X W (e :: es) as) (hgl : Gl X "list" := by rfl) (hgz : Gl X "zip" := by rfl)
    (hs : starEach (e :: es) X.env = (false, eval e X.env) :: starEach es X.env := by rfl) (hpl : (backTo pos2 (starEach es X.env)).any (·.1) = false := by rfl)
    (hs2 : starEach [Expr.Call (.Name "zip" p2) (e :: es) [] pos2] X.env = (false, eval (.Call (.Name "zip" p2) (e :: es) [] pos2) X.env) :: starEach [] X.env := by rfl) :
    PED X W (.Call (.Name "list" p) [.Call (.Name "zip" p2) (e :: es) [] pos2] [] pos) (dListZip as) :=
  pe_weak (ZN.pe_listZip hc hgl hml hgz hmz ha hs hpl hs2) fun σ H Q ⟨F, ρ, κ, δ, XD, QD, S, Rr, h, P, PX⟩ => ⟨F, ρ, κ, δ, XD, _, S, Rr, h, fun F1 ρ1 κ1 H1 xs vs e1 S1 R1 hz => by
    obtain ⟨hxl, kbs, yss, n, hkl, hyl, hall, ⟨y0, hy0, hy0n⟩, hq⟩ := hz
    have hvl := R1.length
    obtain ⟨ks, hksl, hks⟩ : ∃ ks : List (Bool × Addr), ks.length = xs.length ∧ ∀ (j : Nat) (q : Bool × Addr), ks[j]? = some q → vs[j]? = some (.ref q.2) ∧ ∃ ys ws, yss[j]? = some ys ∧ n ≤ ys.length ∧ ZN.SqK X.K H1 q.1 q.2 ws ∧ RepL (CtxOf X) F1 ρ1 ys ws := by
      refine ZN.list_of xs.length fun j hj => ?_
      have e1' := List.getElem?_eq_getElem hj
      generalize xs[j] = x at e1'
      obtain ⟨k, b, ys, a1, a2, a3, a4, a5⟩ := hall j x e1'
      obtain ⟨v, hv, rv⟩ := R1.get e1'
      obtain ⟨a, ws, rfl, hk, rl⟩ := view_at S1 rv a5
      exact ⟨(b, a), hv, ys, ws, a3, a4, hold_sq a2 hk, rl⟩
    have ev : vs = ks.map fun q => V.ref q.2 := List.ext_getElem? fun j => by
      rw [List.getElem?_map]
      cases hc : ks[j]? with
      | none =>
        rw [List.getElem?_eq_none_iff] at hc
        rw [List.getElem?_eq_none_iff.mpr (by omega)]
        rfl
      | some q => exact (hks j q hc).1
    have hzl : (zipD yss n).length = n := by
      unfold zipD
      rw [List.length_map, List.length_range]
    have big : ∀ ys ∈ yss, n ≤ ys.length := fun ys hy => by
      obtain ⟨j, hj⟩ := List.mem_iff_getElem?.mp hy
      have hjl : j < xs.length := by
        have := (List.getElem?_eq_some_iff.mp hj).1
        omega
      obtain ⟨k, b, ys2, _, _, a3, a4, _⟩ := hall j _ (List.getElem?_eq_getElem hjl)
      rw [hj] at a3
      cases a3
      exact a4
    obtain ⟨hq1, hq2⟩ := hq
    rw [hzl] at hq1
    refine ⟨ks, n, ev, by rw [hksl]; exact hxl, hq1, fun j q hj => ?_, ?_, fun S' H2 acc h1 h2 h3 h4 h5 => ?_⟩
    · obtain ⟨_, ys, ws, a1, a2, a3, a4⟩ := hks j q hj
      exact ⟨ws, a3, by rw [← a4.length]; exact a2⟩
    · obtain ⟨j, hj⟩ := List.mem_iff_getElem?.mp hy0
      have hjl : j < ks.length := by
        have := (List.getElem?_eq_some_iff.mp hj).1
        omega
      have e3 := List.getElem?_eq_getElem hjl
      obtain ⟨_, ys, ws, a1, _, a3, a4⟩ := hks j _ e3
      rw [hj] at a1
      cases a1
      exact ⟨j, _, ws, e3, a3, by rw [← a4.length]; exact hy0n⟩
    · obtain ⟨F2, e2, S2, new⟩ := S1.grow h2
      have rows : RepL (CtxOf X) F2 ρ1 (zipD yss n) acc := repL_of (by rw [hzl, h4]) fun i d v hd hv => by
        have hin : i < n := by
          have := (List.getElem?_eq_some_iff.mp hv).1
          omega
        have ed : d = .node .tup (rowsD yss i) := by
          unfold zipD at hd
          rw [List.getElem?_map, List.getElem?_range hin] at hd
          cases hd
          rfl
        subst ed
        obtain ⟨r1, r2⟩ := rows_get (yss := yss) (i := i) fun ys hy => Nat.lt_of_lt_of_le hin (big ys hy)
        obtain ⟨T, ws, t1, t0, t2, t3, t4⟩ := h5 i hin
        rw [hv] at t1
        cases t1
        have hT : F2 T = some (.tup ws) := new _ _ t0 t2
        refine .node (k := .tup) (.inl (.inl hT)) (repL_of (by rw [r1, t3]; omega) fun j d2 v2 g1 g2 => ?_)
        have hjl : j < ks.length := by
          have := (List.getElem?_eq_some_iff.mp g2).1
          omega
        have e3 := List.getElem?_eq_getElem hjl
        obtain ⟨_, ys, us, a1, a2, a3, a4⟩ := hks j _ e3
        obtain ⟨y, hy, hr⟩ := r2 j ys a1
        rw [g1] at hr
        cases hr
        obtain ⟨w, hw, rw'⟩ := a4.get hy
        obtain ⟨x, hx, hx2⟩ := t4 j _ us e3 a3
        rw [hw] at hx
        cases hx
        rw [g2] at hx2
        cases hx2
        exact rw'.ext e2
      exact P _ _ _ _ _ _ (e1.trans e2) S2 (.node (k := .lst) (new _ _ h1 h3) rows) hq2, PX⟩
end
/-! ### methods by name -/
structure MeAt (K : PySem.W.Frag) (mg : Str → Option Value) (c m qual : Str) (st : Stmt) (f : Addr) (fd : FuncData) : Prop where
  ob : ∃ C, ObC K mg c C ∧ Meth K C m f
  F : Fun K m qual st f fd
structure MkAt (K : PySem.W.Frag) (mg : Str → Option Value) (c m qual : Str) (st : Stmt) (f : Addr) (fd : FuncData) : Prop where
  ob : ∃ C, ObC K mg c C ∧ Mk K C f
  F : Fun K m qual st f fd
section
variable {P : Program} {w : World} {K : PySem.W.Frag} {mg : Str → Option Value} {base : Heap} {c m qual : Str} {st : Stmt} {f : Addr} {fd : FuncData} {ps : List Str} {k : Nat} {sp : DSp}
theorem me_mk (D : MeAt K mg c m qual st f fd) (F1 : FnG P w K mg base k f fd ps sp)
    (hbind : ∀ (kV doc pm : Value) (an : Option Addr) (cdv ct : Value) (us : List Value), us.length = ps.length → bindArgs (PySem.W.fnOf m qual (defArgs st) (defBody st) (defScope st) .none kV doc pm an cdv ct) ⟨us, []⟩ = pure (ps.zip us)) : MeOk P w K mg base k c m ps sp :=
  let ⟨C, h1, h2⟩ := D.ob; ⟨C, f, fd, h1, h2, F1, D.F.binds hbind⟩
theorem mk_mk (D : MkAt K mg c m qual st f fd) (F1 : FnG P w K mg base k f fd ps sp)
    (hbind : ∀ (kV doc pm : Value) (an : Option Addr) (cdv ct : Value) (us : List Value), us.length = ps.length → bindArgs (PySem.W.fnOf m qual (defArgs st) (defBody st) (defScope st) .none kV doc pm an cdv ct) ⟨us, []⟩ = pure (ps.zip us)) : MkOk P w K mg base k c ps sp :=
  let ⟨C, h1, h2⟩ := D.ob; ⟨C, f, fd, h1, h2, F1, D.F.binds hbind⟩
theorem okms_nil : OkMs P w K mg base k m [] := fun q hq => (nomatch hq)
theorem okms_cons {tab : List (Str × DSp)} (h : MeOk P w K mg base k c m ps sp) (t : OkMs P w K mg base k m tab) : OkMs P w K mg base k m ((c, sp) :: tab) := List.forall_mem_cons.mpr ⟨⟨_, h⟩, t⟩
end
end DL

/-! DP: plain steps over data. -/
namespace DL
open PySem PySem.Spec PyProof.Rows L2

section
variable {κ : Kap} {Q : DQ} {P : Bool → Prop} {i j : Int} {b c : Bool} {x y : Str} {m : Bool} {xs ys : List D}
theorem tr_non : withTruth .non κ P = P false := rfl
theorem tr_bl : withTruth (.bl b) κ P = P b := rfl
theorem tr_int : withTruth (.int i) κ P = P (i != 0) := rfl
theorem ad_int : fAdd m (.int i) (.int j) κ Q = Q (.int (i + j)) κ := rfl
theorem ad_str : fAdd m (.str x) (.str y) κ Q = (x.length + y.length ≤ sizeLine ∧ Q (.str (x ++ y)) κ) := rfl
theorem nw_t {k : Kd} : fNew true k xs κ Q = ∀ n, κ n = none → Q (.cell n) (kset κ n (.live k xs)) := rfl
theorem ad_lst : fAdd false (.node .lst xs) (.node .lst ys) κ Q = (xs.length + ys.length ≤ sizeLine ∧ Q (.node .lst (xs ++ ys)) κ) := rfl
theorem su_int : fSub (.int i) (.int j) κ Q = Q (.int (i - j)) κ := by unfold fSub fI; exact propext ⟨fun h => h.2, fun h => ⟨trivial, h⟩⟩
theorem mo_int : fMod (.int i) (.int j) κ Q = (j ≠ 0 ∧ Q (.int (i.fmod j)) κ) := rfl
theorem di_int : fDiv (.int i) (.int j) κ Q = (CDivD i j ∧ Q (.int (i.fdiv j)) κ) := rfl
theorem mu_int : fMulI (.int i) (.int j) κ Q = (CMulW i j ∧ Q (.int (i * j)) κ) := rfl
theorem po_int : fPow (.int i) (.int j) κ Q = (CPow i j ∧ Q (.int (i ^ j.toNat)) κ) := rfl
theorem ne_int : fNeg (.int i) κ Q = Q (.int (-i)) κ := rfl
theorem lt_int : fLtS (.int i) (.int j) κ Q = Q (.bl (decide (i < j))) κ := rfl
theorem le_int : fLeS (.int i) (.int j) κ Q = Q (.bl (decide (i ≤ j))) κ := rfl
theorem gt_int : fGtS (.int i) (.int j) κ Q = Q (.bl (decide (j < i))) κ := rfl
theorem ge_int : fGeS (.int i) (.int j) κ Q = Q (.bl (decide (j ≤ i))) κ := rfl
theorem lt_str : fLtS (.str x) (.str y) κ Q = Q (.bl (decide (x.cps.toList < y.cps.toList))) κ := rfl
theorem le_str : fLeS (.str x) (.str y) κ Q = Q (.bl (!decide (y.cps.toList < x.cps.toList))) κ := rfl
theorem ab_int : fAbs [.int i] κ Q = Q (.int (if i < 0 then -i else i)) κ := rfl
theorem mx_int : fMax2 [.int i, .int j] κ Q = Q (.int (if j > i then j else i)) κ := rfl
theorem mn_int : fMin2 [.int i, .int j] κ Q = Q (.int (if j < i then j else i)) κ := rfl
theorem ln_str : fLen [.str y] κ Q = (y.length ≤ sizeLine ∧ Q (.int (y.length : Nat)) κ) := rfl
theorem ln_lst : fLen [.node .lst xs] κ Q = Q (.int (xs.length : Nat)) κ := rfl
theorem ln_klst : fLen [.node .klst xs] κ Q = Q (.int (xs.length : Nat)) κ := rfl
theorem ln_tup : fLen [.node .tup xs] κ Q = Q (.int (xs.length : Nat)) κ := rfl
theorem st_int : fStr [.int i] κ Q = (i.natAbs.log2 < 1920 ∧ Q (.str (toString i)) κ) := rfl
theorem st_str : fStr [.str x] κ Q = Q (.str x) κ := rfl
theorem sl_str {u v : Option Int} : fSl m (.str x) u v κ Q = (x.length ≤ sizeLine ∧ Q (.str (cutS x u v)) κ) := rfl
theorem nw_f {k : Kd} : fNew false k xs κ Q = Q (.node k xs) κ := rfl
theorem ex_bl {b : Bool} {P : Bool → Prop} : (∃ k, D.bl b = D.bl k ∧ P k) = P b := propext ⟨fun ⟨k, h, q⟩ => by cases h; exact q, fun h => ⟨b, rfl, h⟩⟩
theorem ex_int {i : Int} {P : Int → Prop} : (∃ k, D.int i = D.int k ∧ P k) = P i := propext ⟨fun ⟨k, h, q⟩ => by cases h; exact q, fun h => ⟨i, rfl, h⟩⟩
theorem ex_str {x : Str} {P : Prop} : ((∃ y, D.str x = D.str y) ∧ P) = P := propext ⟨fun h => h.2, fun h => ⟨⟨x, rfl⟩, h⟩⟩
theorem ex_par {x y : D} {P : D → D → Prop} : (∃ u v, [x, y] = [u, v] ∧ P u v) = P x y := propext ⟨fun ⟨u, v, h, q⟩ => by cases h; exact q, fun h => ⟨x, y, rfl, h⟩⟩
theorem ex_tup {n : Nat} {P : List D → Prop} : (∃ zs, view (.node .tup xs) κ = some (.tup, zs) ∧ zs.length = n ∧ P zs) = (xs.length = n ∧ P xs) := propext ⟨fun ⟨zs, h, q⟩ => by cases h; exact q, fun h => ⟨xs, rfl, h⟩⟩
theorem ix_lst : fIx (.node .lst xs) (.int i) κ Q = ∃ d, atI xs i = some d ∧ Q d κ := rfl
theorem ix_klst : fIx (.node .klst xs) (.int i) κ Q = ∃ d, atI xs i = some d ∧ Q d κ := rfl
theorem ix_tup : fIx (.node .tup xs) (.int i) κ Q = ∃ d, atI xs i = some d ∧ Q d κ := rfl
theorem ix_str : fIx (.str x) (.int i) κ Q = (x.length ≤ sizeLine ∧ ∃ c, atI x.cps.toList i = some c ∧ Q (.str ⟨#[c]⟩) κ) := rfl
theorem vw_cell {n : Nat} {k : Kd} (h : κ n = some (.live k xs)) : view (.cell n) κ = some (k, xs) := by
  unfold view
  simp only [h]
theorem ix_cell {n : Nat} (h : κ n = some (.live .lst xs)) : fIx (.cell n) (.int i) κ Q = ∃ d, atI xs i = some d ∧ Q d κ := by
  show (match view (.cell n) κ with
    | some (.lst, xs) => ∃ d, atI xs i = some d ∧ Q d κ
    | some (.tup, xs) => ∃ d, atI xs i = some d ∧ Q d κ
    | some (.klst, xs) => ∃ d, atI xs i = some d ∧ Q d κ
    | _ => False) = _
  rw [vw_cell h]
theorem ix_kset {n : Nat} : fIx (.cell n) (.int i) (kset κ n (.live .lst xs)) Q = ∃ d, atI xs i = some d ∧ Q d (kset κ n (.live .lst xs)) := ix_cell kset_same
theorem ixN_nat {k n : Nat} (h : n < k) : ixN k (n : Int) = some n := by
  unfold ixN
  rw [if_pos (Int.natCast_nonneg n), if_pos (by omega), Int.toNat_natCast]
theorem at_nat {α : Type} {xs : List α} {n : Nat} {a : α} (h : xs[n]? = some a) : atI xs (n : Int) = some a := by
  unfold atI
  obtain ⟨h1, _⟩ := List.getElem?_eq_some_iff.mp h
  rw [ixN_nat h1]
  exact h
theorem at_0 {a : D} {l : List D} {P : D → Prop} : (∃ d, atI (a :: l) 0 = some d ∧ P d) = P a := propext ⟨fun ⟨d, h, q⟩ => by
    have : atI (a :: l) 0 = some a := at_nat (n := 0) rfl
    rw [this] at h; cases h; exact q, fun h => ⟨a, at_nat (n := 0) rfl, h⟩⟩
theorem at_1 {a b : D} {l : List D} {P : D → Prop} : (∃ d, atI (a :: b :: l) 1 = some d ∧ P d) = P b := propext ⟨fun ⟨d, h, q⟩ => by
    have : atI (a :: b :: l) 1 = some b := at_nat (n := 1) rfl
    rw [this] at h; cases h; exact q, fun h => ⟨b, at_nat (n := 1) rfl, h⟩⟩
theorem at_2 {a b c : D} {l : List D} {P : D → Prop} : (∃ d, atI (a :: b :: c :: l) 2 = some d ∧ P d) = P c := propext ⟨fun ⟨d, h, q⟩ => by
    have : atI (a :: b :: c :: l) 2 = some c := at_nat (n := 2) rfl
    rw [this] at h; cases h; exact q, fun h => ⟨c, at_nat (n := 2) rfl, h⟩⟩
theorem at_3 {a b c e : D} {l : List D} {P : D → Prop} : (∃ d, atI (a :: b :: c :: e :: l) 3 = some d ∧ P d) = P e := propext ⟨fun ⟨d, h, q⟩ => by
    have : atI (a :: b :: c :: e :: l) 3 = some e := at_nat (n := 3) rfl
    rw [this] at h; cases h; exact q, fun h => ⟨e, at_nat (n := 3) rfl, h⟩⟩
/-- the item of a list at a place below its length -/
theorem at_of {α : Type} {xs : List α} {i : Int} (h0 : 0 ≤ i) (h1 : i < xs.length) : ∃ d, atI xs i = some d ∧ d ∈ xs := by
  unfold atI ixN
  rw [if_pos h0, if_pos h1]
  have h2 : i.toNat < xs.length := by omega
  exact ⟨xs[i.toNat], List.getElem?_eq_getElem h2, List.getElem_mem h2⟩
theorem ix_mem {xs : List D} {i : Int} {κ : Kap} {Q : DQ} (h0 : 0 ≤ i) (h1 : i < xs.length) (h : ∀ d ∈ xs, Q d κ) : fIx (.node .lst xs) (.int i) κ Q := by
  obtain ⟨d, e, hd⟩ := at_of h0 h1
  exact ⟨d, e, h d hd⟩
theorem se_cell {n : Nat} {d : D} {T : Kap → Prop} (h : κ n = some (.live .lst xs)) : fSet (.cell n) (.int i) d κ T = ∃ m, ixN xs.length i = some m ∧ T (kset κ n (.live .lst (xs.set m d))) := by
  unfold fSet
  simp only [h]
theorem se_0 {n : Nat} {a d : D} {l : List D} {T : Kap → Prop} (h : κ n = some (.live .lst (a :: l))) : fSet (.cell n) (.int 0) d κ T = T (kset κ n (.live .lst (d :: l))) := by
  rw [se_cell h]
  exact propext ⟨fun ⟨m, h, q⟩ => by
    have : ixN (a :: l).length 0 = some 0 := by unfold ixN; simp
    rw [this] at h; cases h; exact q, fun h => ⟨0, by unfold ixN; simp, h⟩⟩
theorem se_2 {n : Nat} {a b c d : D} {l : List D} {T : Kap → Prop} (h : κ n = some (.live .lst (a :: b :: c :: l))) : fSet (.cell n) (.int 2) d κ T = T (kset κ n (.live .lst (a :: b :: d :: l))) := by
  rw [se_cell h]
  have e : ixN (a :: b :: c :: l).length 2 = some 2 := ixN_nat (n := 2) (by simp)
  exact propext ⟨fun ⟨m, h, q⟩ => by rw [e] at h; cases h; exact q, fun h => ⟨2, e, h⟩⟩
theorem se_3 {n : Nat} {a b c e d : D} {l : List D} {T : Kap → Prop} (h : κ n = some (.live .lst (a :: b :: c :: e :: l))) : fSet (.cell n) (.int 3) d κ T = T (kset κ n (.live .lst (a :: b :: c :: d :: l))) := by
  rw [se_cell h]
  have e : ixN (a :: b :: c :: e :: l).length 3 = some 3 := ixN_nat (n := 3) (by simp)
  exact propext ⟨fun ⟨m, h, q⟩ => by rw [e] at h; cases h; exact q, fun h => ⟨3, e, h⟩⟩
end

/-! equality of what can be told apart -/
theorem view_int {i : Int} {κ : Kap} : view (.int i) κ = none := rfl
theorem pd_int_is {κ : Kap} {i : Int} {p : PyData} (h : Pd κ (.int i) p) : p = .int i := by
  cases h with
  | int => rfl
  | lst h _ => cases h
  | tup h _ => cases h
  | dct h _ => cases h
theorem pd_str_is {κ : Kap} {x : Str} {p : PyData} (h : Pd κ (.str x) p) : p = .str x := by
  cases h with
  | str => rfl
  | lst h _ => cases h
  | tup h _ => cases h
  | dct h _ => cases h
theorem eq_int {κ : Kap} {Q : DQ} {i j : Int} : fEq (.int i) (.int j) κ Q = Q (.bl (decide (i = j))) κ := propext ⟨fun ⟨p, q, h1, h2, _, _, h⟩ => by
    cases pd_int_is h1
    cases pd_int_is h2
    exact h, fun h => ⟨.int i, .int j, .int i, .int j, rfl, rfl, h⟩⟩
theorem ne_int' {κ : Kap} {Q : DQ} {i j : Int} : fNe (.int i) (.int j) κ Q = Q (.bl (!decide (i = j))) κ := propext ⟨fun ⟨p, q, h1, h2, _, _, h⟩ => by
    cases pd_int_is h1
    cases pd_int_is h2
    exact h, fun h => ⟨.int i, .int j, .int i, .int j, rfl, rfl, h⟩⟩
theorem eq_dat {κ : Kap} {Q : DQ} {x y : D} {p q : PyData} (hx : pdata x = some p) (hy : pdata y = some q) (sx : SeqAt.shaped p = true) (sy : SeqAt.shaped q = true) (h : Q (.bl (PyData.eqv p q)) κ) : fEq x y κ Q := ⟨p, q, pd_of hx, pd_of hy, sx, sy, h⟩
theorem ne_dat {κ : Kap} {Q : DQ} {x y : D} {p q : PyData} (hx : pdata x = some p) (hy : pdata y = some q) (sx : SeqAt.shaped p = true) (sy : SeqAt.shaped q = true) (h : Q (.bl (!PyData.eqv p q)) κ) : fNe x y κ Q := ⟨p, q, pd_of hx, pd_of hy, sx, sy, h⟩

/-! side conditions -/
theorem log_lt {n k : Nat} (h : n < 2 ^ k) : n.log2 ≤ k := by
  by_cases h0 : n = 0
  · subst h0; simp
  · exact Nat.le_of_lt ((Nat.log2_lt h0).mpr h)
theorem cmul_of (a b : Nat) {i j : Int} (h : i.natAbs < 2 ^ a) (h' : j.natAbs < 2 ^ b) (hs : a + b < 1000000) : CMulW i j := by
  have h1 := log_lt h
  have h2 := log_lt h'
  unfold CMulW
  omega
theorem cmul64 {i j : Int} (h : i.natAbs < 2 ^ 64) (h' : j.natAbs < 2 ^ 64) : CMulW i j := cmul_of 64 64 h h' (by decide)
theorem cdiv_of (a : Nat) {i j : Int} (h0 : j ≠ 0) (h : j.natAbs < 2 ^ a) (hs : a < 9000) : CDivD i j := ⟨h0, Nat.lt_of_le_of_lt (log_lt h) hs⟩
theorem cdiv64 {i j : Int} (h0 : j ≠ 0) (h : j.natAbs < 2 ^ 64) : CDivD i j := cdiv_of 64 h0 h (by decide)
theorem fm_bd (x w : Int) (h : 0 < w) : 0 ≤ x.fmod w ∧ x.fmod w < w := ⟨Int.fmod_nonneg_of_pos x h, Int.fmod_lt_of_pos x h⟩
theorem len_cut (z : Str) (u v : Option Int) : (cutS z u v).length ≤ z.length := cutS_length z u v
theorem len_app (x y : Str) : (x ++ y).length = x.length + y.length := Array.size_append
theorem len_one (c : Nat) : (⟨#[c]⟩ : Str).length = 1 := rfl
theorem len_emp : (Str.ofString "").length = 0 := by decide +kernel
theorem len_join : ∀ ys : List Str, (Str.join "" ys).length = (ys.map (·.length)).sum
  | [] => rfl
  | [x] => by simp [Str.join]
  | x :: y :: r => by
    show (x ++ Str.ofString "" ++ Str.join "" (y :: r)).length = _
    rw [len_app, len_app, len_join (y :: r), len_emp]
    simp
theorem sum_ones : ∀ {ys : List Str}, (∀ y ∈ ys, y.length = 1) → (ys.map (·.length)).sum = ys.length
  | [], _ => rfl
  | y :: ys, h => by
    rw [List.map_cons, List.sum_cons, sum_ones fun z hz => h z (List.mem_cons_of_mem _ hz), h y List.mem_cons_self, List.length_cons]
    omega
theorem ipow_le {b : Int} (hb : 1 ≤ b) {i n : Nat} (h : i ≤ n) : b ^ i ≤ b ^ n := by
  induction n with
  | zero => rw [Nat.le_zero.mp h]; exact Int.le_refl _
  | succ n ih =>
    by_cases hi : i = n + 1
    · rw [hi]; exact Int.le_refl _
    · have h1 := ih (by omega)
      have h2 : 0 ≤ b ^ n := Int.pow_nonneg (by omega)
      rw [Int.pow_succ]
      exact Int.le_trans h1 (by have := Int.mul_le_mul_of_nonneg_left hb h2; simpa using this)
/-! isinstance, told -/
theorem isi_ty {tab : List KRow} {d : D} {n : String} {κ : Kap} {Q : DQ} {t : TyK} {b : Bool} (h1 : tyK d κ = some t) (h2 : ktOf tab t (.b n) = some b) : fIsi (ktOf tab) [d, .ty n] κ Q = Q (.bl b) κ := propext ⟨fun ⟨t', b', q1, q2, q⟩ => by
    rw [h1] at q1; cases q1; rw [h2] at q2; cases q2; exact q, fun h => ⟨t, b, h1, h2, h⟩⟩
theorem isi_in {tab : List KRow} {d : D} {n : String} {κ : Kap} {Q : DQ} (t : TyK) (b : Bool) (h1 : tyK d κ = some t) (h2 : ktOf tab t (.b n) = some b) (h : Q (.bl b) κ) : fIsi (ktOf tab) [d, .ty n] κ Q := ⟨t, b, h1, h2, h⟩
/-! repr of data -/
theorem repr_of {x : D} {p : PyData} {κ : Kap} {Q : DQ} (hp : pdata x = some p) (h1 : p.showable = true) (h2 : p.depth ≤ 60) (h3 : p.shown.length ≤ sizeLine) (h : Q (.str p.shown) κ) : fRepr [x] κ Q := ⟨p, pd_of hp, h1, h2, h3, h⟩
theorem bl3_shown : ∀ a b c : Bool, (PyData.list [.bool a, .bool b, .bool c]).depth ≤ 60 ∧ (PyData.list [.bool a, .bool b, .bool c]).shown.length ≤ sizeLine := by decide +kernel
theorem repr_bl3 {a b c : Bool} {κ : Kap} {Q : DQ} (h : Q (.str (PyData.list [.bool a, .bool b, .bool c]).shown) κ) : fRepr [.lst [.bl a, .bl b, .bl c]] κ Q :=
  repr_of rfl rfl (bl3_shown a b c).1 (bl3_shown a b c).2 h
theorem bi_inl {i : Nat} {d : D} {δ : DEnv} {κ : Kap} {P : DEnv → Prop} : (∃ δ1, bindT (.inl i) d δ κ = some δ1 ∧ P δ1) = P (δ.set i (some d)) := propext ⟨fun ⟨δ1, h, q⟩ => by cases h; exact q, fun h => ⟨_, rfl, h⟩⟩
theorem bi_inr {is : List Nat} {xs : List D} {δ δ' : DEnv} {κ : Kap} {P : DEnv → Prop} (h : bindL is xs δ = some δ') : (∃ δ1, bindT (.inr is) (.node .tup xs) δ κ = some δ1 ∧ P δ1) = P δ' := propext ⟨fun ⟨δ1, e, q⟩ => by
    have e' : bindL is xs δ = some δ1 := e
    rw [h] at e'; cases e'; exact q, fun q => ⟨δ', h, q⟩⟩
/-! loops -/
/-- a loop over items: what holds of the rest -/
theorem dLoop_ind {g : DG} {b : DS} {gd : Kap → Prop} {X : DX} {T : DEnds} (I : List D → DEnv → Kap → Prop) (h0 : ∀ δ κ, I [] δ κ → gd κ ∧ T.nx δ κ)
    (hs : ∀ d ds δ κ (L : DEnv → Kap → Prop), (∀ δ κ, I ds δ κ → L δ κ) → I (d :: ds) δ κ → gd κ ∧ g d δ κ X fun δ1 κ1 => b δ1 κ1 X { nx := L, ct := L, bk := T.nx, rt := T.rt }) : ∀ ds δ κ, I ds δ κ → dLoop g b gd X T ds δ κ
  | [], δ, κ, h => h0 δ κ h
  | d :: ds, δ, κ, h => hs d ds δ κ _ (dLoop_ind I h0 hs ds) h
/-- a loop over items: what holds behind i of them -/
theorem dLoop_ix {g : DG} {b : DS} {gd : Kap → Prop} {X : DX} {T : DEnds} {items : List D} (I : Nat → DEnv → Kap → Prop) (h0 : ∀ δ κ, I items.length δ κ → gd κ ∧ T.nx δ κ)
    (hs : ∀ i d δ κ (L : DEnv → Kap → Prop), items[i]? = some d → (∀ δ κ, I (i + 1) δ κ → L δ κ) → I i δ κ → gd κ ∧ g d δ κ X fun δ1 κ1 => b δ1 κ1 X { nx := L, ct := L, bk := T.nx, rt := T.rt }) {δ : DEnv} {κ : Kap} (h : I 0 δ κ) : dLoop g b gd X T items δ κ := by
  refine dLoop_ind (fun ds δ κ => ∃ i, ds = items.drop i ∧ i ≤ items.length ∧ I i δ κ) ?_ ?_ items δ κ ⟨0, rfl, Nat.zero_le _, h⟩
  · rintro δ κ ⟨i, e, hi, h⟩
    have : i = items.length := by
      have := congrArg List.length e
      simp at this
      omega
    subst this
    exact h0 δ κ h
  · rintro d ds δ κ L hL ⟨i, e, hi, h⟩
    have hlt : i < items.length := by
      have := congrArg List.length e
      simp at this
      omega
    rw [List.drop_eq_getElem_cons hlt] at e
    injection e with e1 e2
    exact hs i d δ κ L (by rw [e1]; exact List.getElem?_eq_getElem hlt) (fun δ κ q => hL δ κ ⟨i + 1, e2, hlt, q⟩) h
theorem lcLoop_ind {n : Nat} {t : TN} {tt : DT} {e : DE} {gd : Kap → Prop} {vs : List Nat} {δ : DEnv} {fin : List D → Kap → Prop} (I : List D → List D → Kap → Prop) (h0 : ∀ acc κ, I [] acc κ → gd κ ∧ fin acc κ)
    (hs : ∀ d ds acc κ (L : List D → Kap → Prop), (∀ acc κ, I ds acc κ → L acc κ) → I (d :: ds) acc κ → gd κ ∧ ∃ δ1, bindT t d (dwipe δ vs) κ = some δ1 ∧ tt δ1 κ XF fun b κ2 => if b = true then e δ1 κ2 XF fun y κ3 => κ3 n = some (.live .lst acc) ∧ acc.length < sizeLine ∧ L (acc ++ [y]) (kset κ3 n (.live .lst (acc ++ [y])))
      else L acc κ2) : ∀ ds acc κ, I ds acc κ → lcLoop n t tt e gd vs δ fin ds acc κ
  | [], acc, κ, h => h0 acc κ h
  | d :: ds, acc, κ, h => hs d ds acc κ _ (lcLoop_ind I h0 hs ds) h
theorem lcLoop_ix {n : Nat} {t : TN} {tt : DT} {e : DE} {gd : Kap → Prop} {vs : List Nat} {δ : DEnv} {fin : List D → Kap → Prop} {items : List D} (I : Nat → List D → Kap → Prop) (h0 : ∀ acc κ, I items.length acc κ → gd κ ∧ fin acc κ)
    (hs : ∀ i d acc κ (L : List D → Kap → Prop), items[i]? = some d → (∀ acc κ, I (i + 1) acc κ → L acc κ) → I i acc κ → gd κ ∧ ∃ δ1, bindT t d (dwipe δ vs) κ = some δ1 ∧ tt δ1 κ XF fun b κ2 => if b = true then e δ1 κ2 XF fun y κ3 => κ3 n = some (.live .lst acc) ∧ acc.length < sizeLine ∧ L (acc ++ [y]) (kset κ3 n (.live .lst (acc ++ [y])))
      else L acc κ2) {acc : List D} {κ : Kap} (h : I 0 acc κ) : lcLoop n t tt e gd vs δ fin items acc κ := by
  refine lcLoop_ind (fun ds acc κ => ∃ i, ds = items.drop i ∧ i ≤ items.length ∧ I i acc κ) ?_ ?_ items acc κ ⟨0, rfl, Nat.zero_le _, h⟩
  · rintro δ κ ⟨i, e, hi, h⟩
    have : i = items.length := by
      have := congrArg List.length e
      simp at this
      omega
    subst this
    exact h0 δ κ h
  · rintro d ds δ κ L hL ⟨i, e, hi, h⟩
    have hlt : i < items.length := by
      have := congrArg List.length e
      simp at this
      omega
    rw [List.drop_eq_getElem_cons hlt] at e
    injection e with e1 e2
    exact hs i d δ κ L (by rw [e1]; exact List.getElem?_eq_getElem hlt) (fun δ κ q => hL δ κ ⟨i + 1, e2, hlt, q⟩) h
theorem rangeD_len {lo : Int} {n : Nat} : (rangeD lo n).length = n := by unfold rangeD; simp
theorem rangeD_get {lo : Int} {n i : Nat} {d : D} (h : (rangeD lo n)[i]? = some d) : i < n ∧ d = .int (lo + (i : Nat)) := by
  unfold rangeD at h
  rw [List.getElem?_map, Option.map_eq_some_iff] at h
  obtain ⟨j, hj, rfl⟩ := h
  obtain ⟨h1, h2⟩ := List.getElem?_eq_some_iff.mp hj
  rw [List.length_range] at h1
  rw [List.getElem_range] at h2
  subst h2
  exact ⟨h1, rfl⟩

/-! a box that is drawn from -/
/-- the box at b: three whole numbers, at most m drawn so far -/
def Bx (b m : Nat) (κ : Kap) : Prop := ∃ x y z : Int, κ b = some (.live .lst [.int x, .int y, .int z]) ∧ 0 ≤ y ∧ y < 2 ^ 31 ∧ 0 ≤ z ∧ z ≤ (m : Int)
/-- all cells but b's stay -/
def Fr (b : Nat) (κ κ' : Kap) : Prop := ∀ n c, n ≠ b → κ n = some c → κ' n = some c
theorem Fr.refl {b : Nat} {κ : Kap} : Fr b κ κ := fun _ _ _ h => h
theorem Fr.trans {b : Nat} {κ κ1 κ2 : Kap} (h : Fr b κ κ1) (g : Fr b κ1 κ2) : Fr b κ κ2 := fun n c hn e => g n c hn (h n c hn e)
theorem Fr.set {b n : Nat} {κ : Kap} {c : Cell} (h : κ n = none) : Fr b κ (kset κ n c) := fun m d hm e => by rw [kset_ne (kne e h)]; exact e
theorem Fr.put {b n : Nat} {κ κ' : Kap} {c : Cell} (f : Fr b κ κ') (h : κ n = none) : Fr b κ (kset κ' n c) := fun m d hm e => by rw [kset_ne (kne e h)]; exact f m d hm e
theorem Fr.box {b : Nat} {κ : Kap} {c : Cell} : Fr b κ (kset κ b c) := fun m d hm e => by rw [kset_ne hm]; exact e
theorem Bx.mono {b m m' : Nat} {κ : Kap} (h : Bx b m κ) (hm : m ≤ m') : Bx b m' κ := let ⟨x, y, z, h1, h2, h3, h4, h5⟩ := h; ⟨x, y, z, h1, h2, h3, h4, by omega⟩
theorem Bx.is {b m : Nat} {κ : Kap} (h : Bx b m κ) : ∃ k xs, κ b = some (.live k xs) := let ⟨_, _, _, h1, _⟩ := h; ⟨_, _, h1⟩
theorem Bx.ne {b m n : Nat} {κ : Kap} (h : Bx b m κ) (hn : κ n = none) : n ≠ b := fun e => by obtain ⟨_, _, q⟩ := h.is; rw [e] at hn; rw [hn] at q; cases q
theorem Bx.set {b m n : Nat} {κ : Kap} {c : Cell} (h : Bx b m κ) (hn : n ≠ b) : Bx b m (kset κ n c) := let ⟨x, y, z, h1, h2⟩ := h; ⟨x, y, z, by rw [kset_ne hn.symm]; exact h1, h2⟩
end DL

/-! DS: one step for each reading. -/
namespace DL
open PySem PySem.Spec L2
def rQ (QI : List D → (Kap → Prop) → Kap → Prop) (xs : List D) (κ : Kap) : Prop := match xs with
  | [.int j] => -(2 ^ 62) ≤ j ∧ j < 2 ^ 62 ∧ QI (rangeD 0 j.toNat) gTrue κ
  | _ => False
def sQ (QI : List D → (Kap → Prop) → Kap → Prop) (d : D) (κ : Kap) : Prop := match d with
  | .str x => QI (charsD x) gTrue κ
  | .cell n => match κ n with
    | some (.live .lst xs) => QI xs (fun κ => κ n = some (.live .lst xs)) κ
    | _ => False
  | d => match view d κ with
    | some (.lst, xs) => QI xs gTrue κ
    | some (.klst, xs) => QI xs gTrue κ
    | some (.tup, xs) => QI xs gTrue κ
    | _ => False
section
variable {δ : DEnv} {κ : Kap} {X : DX} {Q : DQ} {a b c : DE} {as r : DA} {t u : DT} {s s' : DS} {d x y : D} {f g : D2} {n : DEnv → Kap → Prop} {rt : DQ} {bk ct : DEnv → Kap → Prop} {T : DEnds} {QL : List D → Kap → Prop} {QB : Bool → Kap → Prop} {QG : DEnv → Kap → Prop} {xs ys : List D} {A B : Prop} {i j : Int} {z v : Str} {m k : Bool}
theorem s_sp {n m : Nat} {b : DS} {ds : List D} {X : Str → List D → Kap → Prop} (h : ds.length = m) (q : b (startD n ds) κ (fun _ c fs κ' => X c fs κ') ⟨fun _ κ' => Q .non κ', Q, fun _ _ => False, fun _ _ => False⟩) : spOf n m b ds κ X Q := ⟨h, q⟩
theorem s_seq (h : s δ κ X ⟨fun δ1 κ1 => s' δ1 κ1 X ⟨n, rt, bk, ct⟩, rt, bk, ct⟩) : sSeq s s' δ κ X ⟨n, rt, bk, ct⟩ := h
theorem s_nil (h : n δ κ) : sNil δ κ X ⟨n, rt, bk, ct⟩ := h
theorem s_asg {g : DG} (h : a δ κ X fun d κ1 => g d δ κ1 X n) : sAsg a g δ κ X ⟨n, rt, bk, ct⟩ := h
theorem s_exp (h : a δ κ X fun _ κ1 => n δ κ1) : sExp a δ κ X ⟨n, rt, bk, ct⟩ := h
theorem s_ret (h : a δ κ X rt) : sRet a δ κ X ⟨n, rt, bk, ct⟩ := h
theorem s_retN (h : rt .non κ) : sRetN δ κ X ⟨n, rt, bk, ct⟩ := h
theorem s_brk (h : bk δ κ) : sBrk δ κ X ⟨n, rt, bk, ct⟩ := h
theorem s_con (h : ct δ κ) : sCon δ κ X ⟨n, rt, bk, ct⟩ := h
theorem s_if (h : t δ κ X fun k κ1 => if k = true then s δ κ1 X T else s' δ κ1 X T) : sIf t s s' δ κ X T := h
theorem s_par {i j : Nat} (h : as δ κ X fun ds κ1 => ∃ x y, ds = [x, y] ∧ n ((δ.set i (some x)).set j (some y)) κ1) : sPar i j as δ κ X ⟨n, rt, bk, ct⟩ := h
theorem s_for {it : DI} {g : DG} (h : it δ κ X fun items gd κ1 => dLoop g s gd X T items δ κ1) : sFor it g s δ κ X T := h
theorem x_par {P : D → D → Prop} (h : P x y) : ∃ u v, [x, y] = [u, v] ∧ P u v := ⟨x, y, rfl, h⟩
theorem e_var {i : Nat} (e : δ[i]? = some (some d)) (h : Q d κ) : dVar i δ κ X Q := by unfold dVar; rw [e]; exact h
theorem e_c (h : Q d κ) : dC d δ κ X Q := h
theorem e_op (h : a δ κ X fun x κ1 => b δ κ1 X fun y κ2 => f x y κ2 Q) : dOp f a b δ κ X Q := h
theorem e_un {f : D1} (h : a δ κ X fun x κ1 => f x κ1 Q) : dUn f a δ κ X Q := h
theorem e_nil (h : QL [] κ) : dNil δ κ X QL := h
theorem e_cons (h : a δ κ X fun x κ1 => r δ κ1 X fun xs κ2 => QL (x :: xs) κ2) : dCons a r δ κ X QL := h
theorem e_B {f : DN} (h : as δ κ X fun xs κ1 => f xs κ1 Q) : dB f as δ κ X Q := h
theorem e_tup (h : as δ κ X fun xs κ1 => xs.length ≤ sizeLine ∧ Q (.node .tup xs) κ1) : dTup as δ κ X Q := h
theorem e_lst (h : as δ κ X fun xs κ1 => xs.length ≤ sizeLine ∧ fNew m .lst xs κ1 Q) : dLst m as δ κ X Q := h
theorem e_dct0 (h : fNew m (.dct []) [] κ Q) : dDct0 m δ κ X Q := h
theorem e_sz (h1 : xs.length ≤ sizeLine) (h : A) : xs.length ≤ sizeLine ∧ A := ⟨h1, h⟩
theorem cpow_of {i j : Int} (h0 : 0 ≤ j) (h1 : j ≤ 1000000) (h2 : i.natAbs < 2 ^ 64) : CPow i j := ⟨h0, h1, h2⟩
theorem e_nwf {k : Kd} (h : Q (.node k xs) κ) : fNew false k xs κ Q := h
theorem e_nwt {k : Kd} (h : ∀ n, κ n = none → Q (.cell n) (kset κ n (.live k xs))) : fNew true k xs κ Q := h
theorem e_and (h : a δ κ X fun x κ1 => withTruth x κ1 fun t => if t = true then b δ κ1 X Q else Q x κ1) : dAnd a b δ κ X Q := h
theorem e_or (h : a δ κ X fun x κ1 => withTruth x κ1 fun t => if t = true then Q x κ1 else b δ κ1 X Q) : dOr a b δ κ X Q := h
theorem e_not (h : a δ κ X fun x κ1 => withTruth x κ1 fun t => Q (.bl (!t)) κ1) : dNot a δ κ X Q := h
theorem e_if (h : t δ κ X fun k κ1 => if k = true then a δ κ1 X Q else b δ κ1 X Q) : dIf t a b δ κ X Q := h
theorem e_chain (h : a δ κ X fun x κ1 => b δ κ1 X fun y κ2 => f x y κ2 fun z κ3 => ∃ k, z = .bl k ∧ if k = true then c δ κ3 X (fun w κ4 => g y w κ4 Q) else Q (.bl false) κ3) : dChain f g a b c δ κ X Q := h
theorem e_sl {lo hi : DO} (h : a δ κ X fun x κ1 => lo δ κ1 X fun i κ2 => hi δ κ2 X fun j κ3 => fSl m x i j κ3 Q) : dSl m a lo hi δ κ X Q := h
theorem e_no {QO : Option Int → Kap → Prop} (h : QO none κ) : dNo δ κ X QO := h
theorem e_part {QO : Option Int → Kap → Prop} (h : a δ κ X fun x κ1 => ∃ i, x = .int i ∧ QO (some i) κ1) : dPart a δ κ X QO := h
theorem e_call {sp : DSp} (h : as δ κ X fun xs κ1 => sp xs κ1 (X δ) Q) : dCall sp [] as δ κ X Q := by
  unfold dCall
  simp only [List.append_nil]
  exact h
theorem e_callD {sp : DSp} {dvs : List D} (h : as δ κ X fun xs κ1 => sp (xs ++ dvs) κ1 (X δ) Q) : dCall sp dvs as δ κ X Q := h
theorem e_m1 {f : D → D → Kap → DQ → Prop} (h : a δ κ X fun x κ1 => (∃ y, x = .str y) ∧ b δ κ1 X fun z κ2 => f x z κ2 Q) : dM1 f a b δ κ X Q := h
theorem e_m0 {f : D → Kap → DQ → Prop} (h : a δ κ X fun x κ1 => (∃ y, x = .str y) ∧ f x κ1 Q) : dM0 f a δ κ X Q := h
theorem e_mk {c : Str} {ns : List Str} (h : as δ κ X fun xs κ1 => xs.length = ns.length ∧ xs.length ≤ 100 ∧ Q (.node (.exc c ns) xs.reverse) κ1) : dMk c ns as δ κ X Q := h
theorem e_lc {it : DI} {t : TN} {tt : DT} {e : DE} {vs : List Nat} (h : it δ κ X fun items gd κ1 => ∀ n, κ1 n = none →
  lcLoop n t tt e gd vs δ (fun acc κ' => κ' n = some (.live .lst acc) ∧ Q (.node .lst acc) (kset κ' n .dead)) items [] (kset κ1 n (.live .lst []))) : dLc false it t tt e vs δ κ X Q := h
theorem e_lcm {it : DI} {t : TN} {tt : DT} {e : DE} {vs : List Nat} (h : it δ κ X fun items gd κ1 => ∀ n, κ1 n = none →
  lcLoop n t tt e gd vs δ (fun acc κ' => κ' n = some (.live .lst acc) ∧ Q (.cell n) κ') items [] (kset κ1 n (.live .lst []))) : dLc true it t tt e vs δ κ X Q := h
theorem t_yes (h : QB true κ) : tYesD δ κ X QB := h
theorem t_tru (h : a δ κ X fun x κ1 => withTruth x κ1 fun t => QB t κ1) : tTru a δ κ X QB := h
theorem t_bl (h : a δ κ X fun x κ1 => ∃ k, x = .bl k ∧ QB k κ1) : tBl a δ κ X QB := h
theorem t_and (h : t δ κ X fun k κ1 => if k = true then u δ κ1 X QB else QB false κ1) : tAndD t u δ κ X QB := h
theorem t_or (h : t δ κ X fun k κ1 => if k = true then QB true κ1 else u δ κ1 X QB) : tOrD t u δ κ X QB := h
theorem t_not (h : t δ κ X fun k κ1 => QB (!k) κ1) : tNotD t δ κ X QB := h
theorem w_bl {P : Bool → Prop} (h : P k) : withTruth (.bl k) κ P := h
theorem w_non {P : Bool → Prop} (h : P false) : withTruth .non κ P := h
theorem w_int {P : Bool → Prop} (h : P (i != 0)) : withTruth (.int i) κ P := h
theorem x_bl {P : Bool → Prop} (h : P k) : ∃ q, D.bl k = D.bl q ∧ P q := ⟨k, rfl, h⟩
theorem x_int {P : Int → Prop} (h : P i) : ∃ q, D.int i = D.int q ∧ P q := ⟨i, rfl, h⟩
theorem x_str (h : A) : (∃ q, D.str z = D.str q) ∧ A := ⟨⟨z, rfl⟩, h⟩
theorem i_T (h : A) : if true = true then A else B := by rw [if_pos rfl]; exact h
theorem i_F (h : B) : if false = true then A else B := by rw [if_neg (by decide)]; exact h
theorem i_not (h : if k = true then B else A) : if (!k) = true then A else B := by cases k <;> exact h
theorem i_dT {p : Prop} [Decidable p] (hp : p) (h : A) : if decide p = true then A else B := by rw [if_pos (decide_eq_true hp)]; exact h
theorem i_dF {p : Prop} [Decidable p] (hp : ¬p) (h : B) : if decide p = true then A else B := by rw [if_neg (by rw [decide_eq_false hp]; decide)]; exact h
theorem i_d {p : Prop} [Decidable p] (h : p → A) (h' : ¬p → B) : if decide p = true then A else B := by
  by_cases hp : p
  · exact i_dT hp (h hp)
  · exact i_dF hp (h' hp)
theorem g_nil (h : QG δ κ) : gNilD [] δ κ X QG := ⟨rfl, h⟩
theorem g_cons {g : DG} {r : DGs} (h : g d δ κ X fun δ1 κ1 => r xs δ1 κ1 X QG) : gConsD g r (d :: xs) δ κ X QG := h
theorem g_tup {N : Nat} {g : DGs} (hl : xs.length = N) (h : g xs δ κ X QG) : gTupD N g (.node .tup xs) δ κ X QG := ⟨xs, rfl, hl, h⟩
theorem g_sub {f : D → D → D → Kap → (Kap → Prop) → Prop} (h : a δ κ X fun x κ1 => b δ κ1 X fun y κ2 => f x y d κ2 fun κ3 => QG δ κ3) : gSubD a b f d δ κ X QG := h
theorem l_1 (h : -(2 ^ 62) ≤ j ∧ j < 2 ^ 62 ∧ A) : -(2 ^ 62) ≤ j ∧ j < 2 ^ 62 ∧ A := h
theorem s_while (I : Nat → DEnv → Kap → Prop) (h0 : ∃ m, I m δ κ) (h : ∀ m δ κ (L : DEnv → Kap → Prop), (∀ m' δ κ, m' < m → I m' δ κ → L δ κ) → I m δ κ → t δ κ X fun k κ1 => if k = true then s δ κ1 X ⟨L, rt, n, L⟩ else n δ κ1) : sWhile t s δ κ X ⟨n, rt, bk, ct⟩ :=
  ⟨I, h0, fun m δ κ hI => h m δ κ _ (fun m' δ κ hm hI => ⟨m', hm, hI⟩) hI⟩
theorem dl_ix {g : DG} {gd : Kap → Prop} {items : List D} (I : Nat → DEnv → Kap → Prop) (h0 : ∀ δ κ, I items.length δ κ → gd κ ∧ n δ κ)
    (hs : ∀ i d δ κ (L : DEnv → Kap → Prop), items[i]? = some d → (∀ δ κ, I (i + 1) δ κ → L δ κ) → I i δ κ → gd κ ∧ g d δ κ X fun δ1 κ1 => s δ1 κ1 X ⟨L, rt, n, L⟩) (h : I 0 δ κ) : dLoop g s gd X ⟨n, rt, bk, ct⟩ items δ κ := dLoop_ix I h0 hs h
theorem e_disp {prs : List (DE × DE)} (h : ∀ n, κ n = none → dPairs prs δ (kset κ n (.live (.dct []) [])) X fun ps κ1 => κ1 n = some (.live (.dct []) []) ∧ ∃ ks : List Key, ps.map (·.1) = ks.map keyD ∧ ks.Nodup ∧ ks.length ≤ 15 ∧ Q (.node (.dct ks) (ps.map (·.2))) (kset κ1 n .dead)) : dDisp false prs δ κ X Q := h
theorem p_nil {QP : List (D × D) → Kap → Prop} (h : QP [] κ) : dPairs [] δ κ X QP := h
theorem p_cons {l : List (DE × DE)} {QP : List (D × D) → Kap → Prop} (h : a δ κ X fun x κ1 => b δ κ1 X fun y κ2 => dPairs l δ κ2 X fun ps κ3 => QP ((x, y) :: ps) κ3) : dPairs ((a, b) :: l) δ κ X QP := h
theorem r_1 {QI : List D → (Kap → Prop) → Kap → Prop} (h : as δ κ X (rQ QI)) : iRange1 as δ κ X QI := h
theorem r_q {QI : List D → (Kap → Prop) → Kap → Prop} (h1 : -(2 ^ 62) ≤ j) (h2 : j < 2 ^ 62) (h : QI (rangeD 0 j.toNat) gTrue κ) : rQ QI [.int j] κ := ⟨h1, h2, h⟩
theorem q_seq {QI : List D → (Kap → Prop) → Kap → Prop} (h : a δ κ X (sQ QI)) : iSeq a δ κ X QI := h
theorem q_S {QI : List D → (Kap → Prop) → Kap → Prop} (h : QI (charsD z) gTrue κ) : sQ QI (.str z) κ := h
theorem q_L {QI : List D → (Kap → Prop) → Kap → Prop} (h : QI xs gTrue κ) : sQ QI (.node .lst xs) κ := h
theorem q_K {QI : List D → (Kap → Prop) → Kap → Prop} (h : QI xs gTrue κ) : sQ QI (.node .klst xs) κ := h
theorem q_T {QI : List D → (Kap → Prop) → Kap → Prop} (h : QI xs gTrue κ) : sQ QI (.node .tup xs) κ := h
/-! operators -/
theorem f_adI (h : Q (.int (i + j)) κ) : fAdd m (.int i) (.int j) κ Q := h
theorem f_adS (h1 : z.length + v.length ≤ sizeLine) (h : Q (.str (z ++ v)) κ) : fAdd m (.str z) (.str v) κ Q := ⟨h1, h⟩
theorem f_adL (h1 : xs.length + ys.length ≤ sizeLine) (h : Q (.node .lst (xs ++ ys)) κ) : fAdd false (.node .lst xs) (.node .lst ys) κ Q := ⟨h1, h⟩
theorem f_sub (h : Q (.int (i - j)) κ) : fSub (.int i) (.int j) κ Q := ⟨trivial, h⟩
theorem f_mod (h1 : j ≠ 0) (h : Q (.int (i.fmod j)) κ) : fMod (.int i) (.int j) κ Q := ⟨h1, h⟩
theorem f_div (h1 : CDivD i j) (h : Q (.int (i.fdiv j)) κ) : fDiv (.int i) (.int j) κ Q := ⟨h1, h⟩
theorem f_mul (h1 : CMulW i j) (h : Q (.int (i * j)) κ) : fMulI (.int i) (.int j) κ Q := ⟨h1, h⟩
theorem f_pow (h1 : CPow i j) (h : Q (.int (i ^ j.toNat)) κ) : fPow (.int i) (.int j) κ Q := ⟨h1, h⟩
theorem f_neg (h : Q (.int (-i)) κ) : fNeg (.int i) κ Q := h
theorem f_ltI (h : Q (.bl (decide (i < j))) κ) : fLtS (.int i) (.int j) κ Q := h
theorem f_leI (h : Q (.bl (decide (i ≤ j))) κ) : fLeS (.int i) (.int j) κ Q := h
theorem f_gtI (h : Q (.bl (decide (j < i))) κ) : fGtS (.int i) (.int j) κ Q := h
theorem f_geI (h : Q (.bl (decide (j ≤ i))) κ) : fGeS (.int i) (.int j) κ Q := h
theorem f_leS (h : Q (.bl (!decide (v.cps.toList < z.cps.toList))) κ) : fLeS (.str z) (.str v) κ Q := h
theorem f_ltS (h : Q (.bl (decide (z.cps.toList < v.cps.toList))) κ) : fLtS (.str z) (.str v) κ Q := h
theorem f_eqI (h : Q (.bl (decide (i = j))) κ) : fEq (.int i) (.int j) κ Q := by rw [eq_int]; exact h
theorem f_neI (h : Q (.bl (!decide (i = j))) κ) : fNe (.int i) (.int j) κ Q := by rw [ne_int']; exact h
theorem f_eqS (h1 : SeqAt.shaped (.str z) = true) (h2 : SeqAt.shaped (.str v) = true) (h : Q (.bl (z == v)) κ) : fEq (.str z) (.str v) κ Q := eq_dat rfl rfl h1 h2 h
theorem f_neS (h1 : SeqAt.shaped (.str z) = true) (h2 : SeqAt.shaped (.str v) = true) (h : Q (.bl (!(z == v))) κ) : fNe (.str z) (.str v) κ Q := ne_dat rfl rfl h1 h2 h
theorem f_inS (h : Q (.bl (strIn z v)) κ) : fIn false (.str z) (.str v) κ Q := h
theorem f_abs (h : Q (.int (if i < 0 then -i else i)) κ) : fAbs [.int i] κ Q := h
theorem f_max (h : Q (.int (if j > i then j else i)) κ) : fMax2 [.int i, .int j] κ Q := h
theorem f_min (h : Q (.int (if j < i then j else i)) κ) : fMin2 [.int i, .int j] κ Q := h
theorem f_lnS (h1 : z.length ≤ sizeLine) (h : Q (.int (z.length : Nat)) κ) : fLen [.str z] κ Q := ⟨h1, h⟩
theorem f_lnL (h : Q (.int (xs.length : Nat)) κ) : fLen [.node .lst xs] κ Q := h
theorem f_lnK (h : Q (.int (xs.length : Nat)) κ) : fLen [.node .klst xs] κ Q := h
theorem f_lnT (h : Q (.int (xs.length : Nat)) κ) : fLen [.node .tup xs] κ Q := h
theorem f_stI (h1 : i.natAbs.log2 < 1920) (h : Q (.str (toString i)) κ) : fStr [.int i] κ Q := ⟨h1, h⟩
theorem f_slS {p q : Option Int} (h1 : z.length ≤ sizeLine) (h : Q (.str (cutS z p q)) κ) : fSl m (.str z) p q κ Q := ⟨h1, h⟩
theorem f_ix0 (h : Q d κ) : fIx (.node .lst (d :: xs)) (.int 0) κ Q := by rw [ix_lst, at_0]; exact h
theorem f_ix1 (h : Q d κ) : fIx (.node .lst (x :: d :: xs)) (.int 1) κ Q := by rw [ix_lst, at_1]; exact h
theorem f_ix2 (h : Q d κ) : fIx (.node .lst (x :: y :: d :: xs)) (.int 2) κ Q := by rw [ix_lst, at_2]; exact h
theorem f_ic0 {N : Nat} (e : κ N = some (.live .lst (d :: xs))) (h : Q d κ) : fIx (.cell N) (.int 0) κ Q := by rw [ix_cell e, at_0]; exact h
theorem f_ic1 {N : Nat} (e : κ N = some (.live .lst (x :: d :: xs))) (h : Q d κ) : fIx (.cell N) (.int 1) κ Q := by rw [ix_cell e, at_1]; exact h
theorem f_ic2 {N : Nat} (e : κ N = some (.live .lst (x :: y :: d :: xs))) (h : Q d κ) : fIx (.cell N) (.int 2) κ Q := by rw [ix_cell e, at_2]; exact h
theorem f_ik0 {N : Nat} (h : Q d (kset κ N (.live .lst (d :: xs)))) : fIx (.cell N) (.int 0) (kset κ N (.live .lst (d :: xs))) Q := f_ic0 kset_same h
theorem f_ik1 {N : Nat} (h : Q d (kset κ N (.live .lst (x :: d :: xs)))) : fIx (.cell N) (.int 1) (kset κ N (.live .lst (x :: d :: xs))) Q := f_ic1 kset_same h
theorem f_ik2 {N : Nat} (h : Q d (kset κ N (.live .lst (x :: y :: d :: xs)))) : fIx (.cell N) (.int 2) (kset κ N (.live .lst (x :: y :: d :: xs))) Q := f_ic2 kset_same h
theorem f_se0 {N : Nat} {P : Kap → Prop} (e : κ N = some (.live .lst (x :: xs))) (h : P (kset κ N (.live .lst (d :: xs)))) : fSet (.cell N) (.int 0) d κ P := by rw [se_0 e]; exact h
theorem f_se2 {N : Nat} {v w : D} {P : Kap → Prop} (e : κ N = some (.live .lst (v :: w :: x :: xs))) (h : P (kset κ N (.live .lst (v :: w :: d :: xs)))) : fSet (.cell N) (.int 2) d κ P := by rw [se_2 e]; exact h
theorem f_it0 (h : Q d κ) : fIx (.node .tup (d :: xs)) (.int 0) κ Q := by rw [ix_tup, at_0]; exact h
theorem f_it1 (h : Q d κ) : fIx (.node .tup (x :: d :: xs)) (.int 1) κ Q := by rw [ix_tup, at_1]; exact h
theorem f_it2 (h : Q d κ) : fIx (.node .tup (x :: y :: d :: xs)) (.int 2) κ Q := by rw [ix_tup, at_2]; exact h
theorem g_n0 {e0 : Option D} {l : DEnv} (h : QG (some d :: l) κ) : gN 0 d (e0 :: l) κ X QG := h
theorem g_n1 {e0 e1 : Option D} {l : DEnv} (h : QG (e0 :: some d :: l) κ) : gN 1 d (e0 :: e1 :: l) κ X QG := h
theorem g_n2 {e0 e1 e2 : Option D} {l : DEnv} (h : QG (e0 :: e1 :: some d :: l) κ) : gN 2 d (e0 :: e1 :: e2 :: l) κ X QG := h
theorem g_n3 {e0 e1 e2 e3 : Option D} {l : DEnv} (h : QG (e0 :: e1 :: e2 :: some d :: l) κ) : gN 3 d (e0 :: e1 :: e2 :: e3 :: l) κ X QG := h
theorem g_n4 {e0 e1 e2 e3 e4 : Option D} {l : DEnv} (h : QG (e0 :: e1 :: e2 :: e3 :: some d :: l) κ) : gN 4 d (e0 :: e1 :: e2 :: e3 :: e4 :: l) κ X QG := h
theorem g_n5 {e0 e1 e2 e3 e4 e5 : Option D} {l : DEnv} (h : QG (e0 :: e1 :: e2 :: e3 :: e4 :: some d :: l) κ) : gN 5 d (e0 :: e1 :: e2 :: e3 :: e4 :: e5 :: l) κ X QG := h
theorem g_n6 {e0 e1 e2 e3 e4 e5 e6 : Option D} {l : DEnv} (h : QG (e0 :: e1 :: e2 :: e3 :: e4 :: e5 :: some d :: l) κ) : gN 6 d (e0 :: e1 :: e2 :: e3 :: e4 :: e5 :: e6 :: l) κ X QG := h
theorem g_n7 {e0 e1 e2 e3 e4 e5 e6 e7 : Option D} {l : DEnv} (h : QG (e0 :: e1 :: e2 :: e3 :: e4 :: e5 :: e6 :: some d :: l) κ) : gN 7 d (e0 :: e1 :: e2 :: e3 :: e4 :: e5 :: e6 :: e7 :: l) κ X QG := h
theorem g_n8 {e0 e1 e2 e3 e4 e5 e6 e7 e8 : Option D} {l : DEnv} (h : QG (e0 :: e1 :: e2 :: e3 :: e4 :: e5 :: e6 :: e7 :: some d :: l) κ) : gN 8 d (e0 :: e1 :: e2 :: e3 :: e4 :: e5 :: e6 :: e7 :: e8 :: l) κ X QG := h
theorem g_n9 {e0 e1 e2 e3 e4 e5 e6 e7 e8 e9 : Option D} {l : DEnv} (h : QG (e0 :: e1 :: e2 :: e3 :: e4 :: e5 :: e6 :: e7 :: e8 :: some d :: l) κ) : gN 9 d (e0 :: e1 :: e2 :: e3 :: e4 :: e5 :: e6 :: e7 :: e8 :: e9 :: l) κ X QG := h
theorem g_n10 {e0 e1 e2 e3 e4 e5 e6 e7 e8 e9 e10 : Option D} {l : DEnv} (h : QG (e0 :: e1 :: e2 :: e3 :: e4 :: e5 :: e6 :: e7 :: e8 :: e9 :: some d :: l) κ) : gN 10 d (e0 :: e1 :: e2 :: e3 :: e4 :: e5 :: e6 :: e7 :: e8 :: e9 :: e10 :: l) κ X QG := h
theorem g_n11 {e0 e1 e2 e3 e4 e5 e6 e7 e8 e9 e10 e11 : Option D} {l : DEnv} (h : QG (e0 :: e1 :: e2 :: e3 :: e4 :: e5 :: e6 :: e7 :: e8 :: e9 :: e10 :: some d :: l) κ) : gN 11 d (e0 :: e1 :: e2 :: e3 :: e4 :: e5 :: e6 :: e7 :: e8 :: e9 :: e10 :: e11 :: l) κ X QG := h
theorem g_n12 {e0 e1 e2 e3 e4 e5 e6 e7 e8 e9 e10 e11 e12 : Option D} {l : DEnv} (h : QG (e0 :: e1 :: e2 :: e3 :: e4 :: e5 :: e6 :: e7 :: e8 :: e9 :: e10 :: e11 :: some d :: l) κ) : gN 12 d (e0 :: e1 :: e2 :: e3 :: e4 :: e5 :: e6 :: e7 :: e8 :: e9 :: e10 :: e11 :: e12 :: l) κ X QG := h
theorem g_n13 {e0 e1 e2 e3 e4 e5 e6 e7 e8 e9 e10 e11 e12 e13 : Option D} {l : DEnv} (h : QG (e0 :: e1 :: e2 :: e3 :: e4 :: e5 :: e6 :: e7 :: e8 :: e9 :: e10 :: e11 :: e12 :: some d :: l) κ) : gN 13 d (e0 :: e1 :: e2 :: e3 :: e4 :: e5 :: e6 :: e7 :: e8 :: e9 :: e10 :: e11 :: e12 :: e13 :: l) κ X QG := h
theorem g_n14 {e0 e1 e2 e3 e4 e5 e6 e7 e8 e9 e10 e11 e12 e13 e14 : Option D} {l : DEnv} (h : QG (e0 :: e1 :: e2 :: e3 :: e4 :: e5 :: e6 :: e7 :: e8 :: e9 :: e10 :: e11 :: e12 :: e13 :: some d :: l) κ) : gN 14 d (e0 :: e1 :: e2 :: e3 :: e4 :: e5 :: e6 :: e7 :: e8 :: e9 :: e10 :: e11 :: e12 :: e13 :: e14 :: l) κ X QG := h
theorem g_n15 {e0 e1 e2 e3 e4 e5 e6 e7 e8 e9 e10 e11 e12 e13 e14 e15 : Option D} {l : DEnv} (h : QG (e0 :: e1 :: e2 :: e3 :: e4 :: e5 :: e6 :: e7 :: e8 :: e9 :: e10 :: e11 :: e12 :: e13 :: e14 :: some d :: l) κ) : gN 15 d (e0 :: e1 :: e2 :: e3 :: e4 :: e5 :: e6 :: e7 :: e8 :: e9 :: e10 :: e11 :: e12 :: e13 :: e14 :: e15 :: l) κ X QG := h
theorem g_n16 {e0 e1 e2 e3 e4 e5 e6 e7 e8 e9 e10 e11 e12 e13 e14 e15 e16 : Option D} {l : DEnv} (h : QG (e0 :: e1 :: e2 :: e3 :: e4 :: e5 :: e6 :: e7 :: e8 :: e9 :: e10 :: e11 :: e12 :: e13 :: e14 :: e15 :: some d :: l) κ) : gN 16 d (e0 :: e1 :: e2 :: e3 :: e4 :: e5 :: e6 :: e7 :: e8 :: e9 :: e10 :: e11 :: e12 :: e13 :: e14 :: e15 :: e16 :: l) κ X QG := h
theorem g_n17 {e0 e1 e2 e3 e4 e5 e6 e7 e8 e9 e10 e11 e12 e13 e14 e15 e16 e17 : Option D} {l : DEnv} (h : QG (e0 :: e1 :: e2 :: e3 :: e4 :: e5 :: e6 :: e7 :: e8 :: e9 :: e10 :: e11 :: e12 :: e13 :: e14 :: e15 :: e16 :: some d :: l) κ) : gN 17 d (e0 :: e1 :: e2 :: e3 :: e4 :: e5 :: e6 :: e7 :: e8 :: e9 :: e10 :: e11 :: e12 :: e13 :: e14 :: e15 :: e16 :: e17 :: l) κ X QG := h
theorem g_n18 {e0 e1 e2 e3 e4 e5 e6 e7 e8 e9 e10 e11 e12 e13 e14 e15 e16 e17 e18 : Option D} {l : DEnv} (h : QG (e0 :: e1 :: e2 :: e3 :: e4 :: e5 :: e6 :: e7 :: e8 :: e9 :: e10 :: e11 :: e12 :: e13 :: e14 :: e15 :: e16 :: e17 :: some d :: l) κ) : gN 18 d (e0 :: e1 :: e2 :: e3 :: e4 :: e5 :: e6 :: e7 :: e8 :: e9 :: e10 :: e11 :: e12 :: e13 :: e14 :: e15 :: e16 :: e17 :: e18 :: l) κ X QG := h
theorem g_n19 {e0 e1 e2 e3 e4 e5 e6 e7 e8 e9 e10 e11 e12 e13 e14 e15 e16 e17 e18 e19 : Option D} {l : DEnv} (h : QG (e0 :: e1 :: e2 :: e3 :: e4 :: e5 :: e6 :: e7 :: e8 :: e9 :: e10 :: e11 :: e12 :: e13 :: e14 :: e15 :: e16 :: e17 :: e18 :: some d :: l) κ) : gN 19 d (e0 :: e1 :: e2 :: e3 :: e4 :: e5 :: e6 :: e7 :: e8 :: e9 :: e10 :: e11 :: e12 :: e13 :: e14 :: e15 :: e16 :: e17 :: e18 :: e19 :: l) κ X QG := h
theorem g_n20 {e0 e1 e2 e3 e4 e5 e6 e7 e8 e9 e10 e11 e12 e13 e14 e15 e16 e17 e18 e19 e20 : Option D} {l : DEnv} (h : QG (e0 :: e1 :: e2 :: e3 :: e4 :: e5 :: e6 :: e7 :: e8 :: e9 :: e10 :: e11 :: e12 :: e13 :: e14 :: e15 :: e16 :: e17 :: e18 :: e19 :: some d :: l) κ) : gN 20 d (e0 :: e1 :: e2 :: e3 :: e4 :: e5 :: e6 :: e7 :: e8 :: e9 :: e10 :: e11 :: e12 :: e13 :: e14 :: e15 :: e16 :: e17 :: e18 :: e19 :: e20 :: l) κ X QG := h
theorem g_n21 {e0 e1 e2 e3 e4 e5 e6 e7 e8 e9 e10 e11 e12 e13 e14 e15 e16 e17 e18 e19 e20 e21 : Option D} {l : DEnv} (h : QG (e0 :: e1 :: e2 :: e3 :: e4 :: e5 :: e6 :: e7 :: e8 :: e9 :: e10 :: e11 :: e12 :: e13 :: e14 :: e15 :: e16 :: e17 :: e18 :: e19 :: e20 :: some d :: l) κ) : gN 21 d (e0 :: e1 :: e2 :: e3 :: e4 :: e5 :: e6 :: e7 :: e8 :: e9 :: e10 :: e11 :: e12 :: e13 :: e14 :: e15 :: e16 :: e17 :: e18 :: e19 :: e20 :: e21 :: l) κ X QG := h
theorem g_n22 {e0 e1 e2 e3 e4 e5 e6 e7 e8 e9 e10 e11 e12 e13 e14 e15 e16 e17 e18 e19 e20 e21 e22 : Option D} {l : DEnv} (h : QG (e0 :: e1 :: e2 :: e3 :: e4 :: e5 :: e6 :: e7 :: e8 :: e9 :: e10 :: e11 :: e12 :: e13 :: e14 :: e15 :: e16 :: e17 :: e18 :: e19 :: e20 :: e21 :: some d :: l) κ) : gN 22 d (e0 :: e1 :: e2 :: e3 :: e4 :: e5 :: e6 :: e7 :: e8 :: e9 :: e10 :: e11 :: e12 :: e13 :: e14 :: e15 :: e16 :: e17 :: e18 :: e19 :: e20 :: e21 :: e22 :: l) κ X QG := h
theorem g_n23 {e0 e1 e2 e3 e4 e5 e6 e7 e8 e9 e10 e11 e12 e13 e14 e15 e16 e17 e18 e19 e20 e21 e22 e23 : Option D} {l : DEnv} (h : QG (e0 :: e1 :: e2 :: e3 :: e4 :: e5 :: e6 :: e7 :: e8 :: e9 :: e10 :: e11 :: e12 :: e13 :: e14 :: e15 :: e16 :: e17 :: e18 :: e19 :: e20 :: e21 :: e22 :: some d :: l) κ) : gN 23 d (e0 :: e1 :: e2 :: e3 :: e4 :: e5 :: e6 :: e7 :: e8 :: e9 :: e10 :: e11 :: e12 :: e13 :: e14 :: e15 :: e16 :: e17 :: e18 :: e19 :: e20 :: e21 :: e22 :: e23 :: l) κ X QG := h
end
end DL

/-! DT: texts of a bounded length, of code points. -/
namespace DL
open PySem PySem.Spec PyProof.Rows L2
def Tx (n : Nat) (x : Str) : Prop := x.length ≤ n ∧ ∀ c ∈ x.cps.toList, c < 0x110000
theorem Tx.mono {n m : Nat} {x : Str} (h : Tx n x) (hm : n ≤ m) : Tx m x := ⟨Nat.le_trans h.1 hm, h.2⟩
theorem Tx.app {n m : Nat} {x y : Str} (h : Tx n x) (h' : Tx m y) : Tx (n + m) (x ++ y) := ⟨by
    rw [len_app]
    exact Nat.add_le_add h.1 h'.1, fun c hc => by
    have e : (x ++ y).cps.toList = x.cps.toList ++ y.cps.toList := Array.toList_append
    rw [e] at hc
    rcases List.mem_append.mp hc with hc | hc
    · exact h.2 c hc
    · exact h'.2 c hc⟩
theorem Tx.cut {n : Nat} {x : Str} (h : Tx n x) (p q : Option Int) : Tx n (cutS x p q) := ⟨Nat.le_trans (len_cut x p q) h.1, fun c hc => by
    have e : (cutS x p q).cps.toList = (x.cps.toList.drop (HT.sIx x.length 0 p)).take (HT.sIx x.length x.length q - HT.sIx x.length 0 p) := rfl
    rw [e] at hc
    exact h.2 c (List.drop_subset _ _ (List.take_subset _ _ hc))⟩
theorem Tx.one {c : Nat} (h : c < 0x110000) : Tx 1 ⟨#[c]⟩ := ⟨Nat.le_refl _, fun d hd => by
    have : d ∈ [c] := hd
    rw [List.mem_singleton.mp this]
    exact h⟩
theorem Tx.of {n : Nat} (s : String) (h : (Str.ofString s).length ≤ n) : Tx n (Str.ofString s) := ⟨h, fun c hc => by
    rw [PySem.Str.ofString_eq_toList] at hc
    have hc' : c ∈ s.toList.map Char.toNat := hc
    obtain ⟨ch, _, rfl⟩ := List.mem_map.mp hc'
    rcases ch.valid with h | ⟨_, h⟩
    · exact Nat.lt_trans h (by decide)
    · exact h⟩
theorem Tx.num {i : Int} (h : i.natAbs.log2 < 1920) : Tx 1921 (toString i : String) := Tx.of _ (PyProof.Rows.int_text_len_1921 h)
theorem Tx.emp : Tx 0 (Str.ofString "") := Tx.of _ (by rw [len_emp]; exact Nat.le_refl _)
theorem Tx.join {n : Nat} : ∀ {ys : List Str}, (∀ y ∈ ys, Tx n y) → Tx (ys.length * n) (Str.join "" ys)
  | [], _ => Tx.emp.mono (Nat.zero_le _)
  | [x], h => by
    have := h x List.mem_cons_self
    exact this.mono (by simp)
  | x :: y :: r, h => by
    have h1 := h x List.mem_cons_self
    have h2 := Tx.join (ys := y :: r) fun z hz => h z (List.mem_cons_of_mem _ hz)
    have := (h1.app Tx.emp).app h2
    exact this.mono (by simp only [List.length_cons, Nat.add_mul, Nat.one_mul]; omega)
theorem Tx.joinT {n : Nat} {ys : List Str} (h : ∀ y ∈ ys, Tx n y) : Tx (ys.length * n) (Txt.join (Str.ofString "") ys) := by
  rw [TL.join_eq]
  exact Tx.join h
theorem Tx.sum {n : Nat} : ∀ {ys : List Str}, (∀ y ∈ ys, Tx n y) → (ys.map (·.length)).sum ≤ ys.length * n
  | [], _ => Nat.zero_le _
  | y :: ys, h => by
    have h1 := (h y List.mem_cons_self).1
    have h2 := Tx.sum (ys := ys) fun z hz => h z (List.mem_cons_of_mem _ hz)
    rw [List.map_cons, List.sum_cons, List.length_cons, Nat.add_mul, Nat.one_mul]
    omega
theorem Tx.shaped {n : Nat} {x : Str} (h : Tx n x) : SeqAt.shaped (.str x) = true := by
  have : PyData.strOk x = true := by
    unfold PyData.strOk
    rw [Array.all_eq_true']
    intro c hc
    exact decide_eq_true (h.2 c (Array.mem_toList_iff.mpr hc))
  show ((PyData.strOk x) && decide _) = true
  rw [this]
  rfl
theorem shaped_strs {n : Nat} : ∀ {ys : List Str}, (∀ y ∈ ys, Tx n y) → SeqAt.shaped (.list (ys.map PyData.str)) = true := by
  intro ys h
  have h1 : ∀ ys : List Str, (∀ y ∈ ys, Tx n y) → PyData.canLayAll0 (ys.map PyData.str) = true ∧ PyData.depthAll (ys.map PyData.str) = 0 := by
    intro ys
    induction ys with
    | nil => intro _; exact ⟨rfl, rfl⟩
    | cons y ys ih =>
      intro h
      obtain ⟨a, b⟩ := ih fun z hz => h z (List.mem_cons_of_mem _ hz)
      have hy := h y List.mem_cons_self
      have : PyData.strOk y = true := by
        unfold PyData.strOk
        rw [Array.all_eq_true']
        intro c hc
        exact decide_eq_true (hy.2 c (Array.mem_toList_iff.mpr hc))
      refine ⟨?_, ?_⟩
      · show (PyData.strOk y && PyData.canLayAll0 (ys.map PyData.str)) = true
        rw [this, a]
        rfl
      · show max 0 (PyData.depthAll (ys.map PyData.str)) = 0
        rw [b]
        rfl
  obtain ⟨a, b⟩ := h1 ys h
  show (PyData.canLayAll0 (ys.map PyData.str) && decide (PyData.depthAll (ys.map PyData.str) + 1 ≤ 64)) = true
  rw [a, b]
  rfl
theorem pdata_strs (ys : List Str) : pdata (.node .lst (ys.map D.str)) = some (.list (ys.map PyData.str)) := by
  have : pdataL (ys.map D.str) = some (ys.map PyData.str) := by
    induction ys with
    | nil => rfl
    | cons y ys ih =>
      show (match pdata (.str y), pdataL (ys.map D.str) with
        | some p, some ps => some (p :: ps)
        | _, _ => none) = _
      rw [ih]
      rfl
  show (match pdataL (ys.map D.str) with
    | some ps => some (PyData.list ps)
    | none => none) = _
  rw [this]
/-- a list of texts, asked whether it is empty -/
theorem eq_none {n : Nat} {ys : List Str} {κ : Kap} {Q : DQ} (h : ∀ y ∈ ys, Tx n y) (q : Q (.bl ys.isEmpty) κ) : fEq (.node .lst (ys.map D.str)) (.node .lst []) κ Q := by
  refine eq_dat (pdata_strs ys) (q := .list []) rfl (shaped_strs h) rfl ?_
  cases ys <;> exact q
/-- a sign of a text -/
theorem Tx.at {n : Nat} {x : Str} {i : Int} (h : Tx n x) (h0 : 0 ≤ i) (h1 : i < x.length) : ∃ c, atI x.cps.toList i = some c ∧ Tx 1 ⟨#[c]⟩ := by
  obtain ⟨c, e, hc⟩ := at_of (xs := x.cps.toList) h0 (by rw [Array.length_toList]; exact h1)
  exact ⟨c, e, .one (h.2 c hc)⟩
theorem f_ixS {n : Nat} {x : Str} {i : Int} {κ : Kap} {Q : DQ} (h : Tx n x) (hn : n ≤ 16777216) (h0 : 0 ≤ i) (h1 : i < x.length) (q : ∀ c, Tx 1 ⟨#[c]⟩ → Q (.str ⟨#[c]⟩) κ) : fIx (.str x) (.int i) κ Q := by
  obtain ⟨c, e, hc⟩ := h.at h0 h1
  exact ⟨Nat.le_trans h.1 hn, c, e, q c hc⟩
theorem f_adT {n m : Nat} {z v : Str} {k : Bool} {κ : Kap} {Q : DQ} (h : Tx n z) (h' : Tx m v) (hs : n + m ≤ 16777216) (q : Tx (n + m) (z ++ v) → Q (.str (z ++ v)) κ) : fAdd k (.str z) (.str v) κ Q :=
  ⟨by have h1 := h.1; have h2 := h'.1; unfold sizeLine; omega, q (h.app h')⟩
theorem f_slT {n : Nat} {z : Str} {k : Bool} {u v : Option Int} {κ : Kap} {Q : DQ} (h : Tx n z) (hs : n ≤ 16777216) (q : Tx n (cutS z u v) → Q (.str (cutS z u v)) κ) : fSl k (.str z) u v κ Q :=
  ⟨Nat.le_trans h.1 hs, q (h.cut u v)⟩
theorem f_lnTx {n : Nat} {z : Str} {κ : Kap} {Q : DQ} (h : Tx n z) (hs : n ≤ 16777216) (q : z.length ≤ n → Q (.int (z.length : Nat)) κ) : fLen [.str z] κ Q := ⟨Nat.le_trans h.1 hs, q h.1⟩
theorem f_join {n : Nat} {ys : List Str} {κ : Kap} {Q : DQ} (h : ∀ y ∈ ys, Tx n y) (hn : ys.length * n ≤ 16777216) (q : ∀ x, Tx (ys.length * n) x → Q (.str x) κ) : fJoin (.str (Str.ofString "")) (.node .lst (ys.map D.str)) κ Q :=
  ⟨ys, .inl rfl, by rw [len_emp]; have := Tx.sum h; omega, q _ (Tx.joinT h)⟩
end DL

/-! DN: numbers as tops and bases. -/
namespace DL
open PySem PySem.Spec PyProof.Rows L2
/-! texts of data -/
theorem Tx.list {n : Nat} {ts : List Str} (h : ∀ t ∈ ts, Tx n t) : Tx (ts.length * (n + 2) + 2) (listText ts) := by
  have t1 : Tx 1 (Str.ofString "[") := .of _ (by decide +kernel)
  have t2 : Tx 1 (Str.ofString "]") := .of _ (by decide +kernel)
  have t3 : Tx 2 (Str.ofString ", ") := .of _ (by decide +kernel)
  have go : ∀ (ts : List Str) (k : Nat) (acc : Str) (m : Nat), (∀ t ∈ ts, Tx n t) → Tx m acc → Tx (m + ts.length * (n + 2)) (textFrom k acc ts) := by
    intro ts
    induction ts with
    | nil => intro k acc m _ ha; exact ha.mono (by simp)
    | cons t r ih =>
      intro k acc m ht ha
      have h1 := ht t List.mem_cons_self
      have h0 : Tx 2 (Str.ofString (if k > 0 then ", " else "")) := by
        split
        · exact t3
        · exact Tx.emp.mono (by decide)
      have := ih (k + 1) _ (m + 2 + n) (fun z hz => ht z (List.mem_cons_of_mem _ hz)) ((ha.app h0).app h1)
      refine this.mono ?_
      rw [List.length_cons, Nat.add_mul]
      omega
  exact ((go ts 0 _ 1 h t1).app t2).mono (by omega)
theorem Tx.joinC {n : Nat} : ∀ {ys : List Str}, (∀ y ∈ ys, Tx n y) → Tx (ys.length * (n + 2)) (Str.join ", " ys)
  | [], _ => Tx.emp.mono (Nat.zero_le _)
  | [x], h => (h x List.mem_cons_self).mono (by simp)
  | x :: y :: r, h => by
    have t3 : Tx 2 (Str.ofString ", ") := .of _ (by decide +kernel)
    have h1 := h x List.mem_cons_self
    have h2 := Tx.joinC (ys := y :: r) fun z hz => h z (List.mem_cons_of_mem _ hz)
    have := (h1.app t3).app h2
    exact this.mono (by simp only [List.length_cons, Nat.add_mul, Nat.one_mul]; omega)
theorem Tx.tuple {n : Nat} {ts : List Str} (h : ∀ t ∈ ts, Tx n t) : Tx (ts.length * (n + 2) + 3) (tupleText ts) := by
  have t1 : Tx 1 (Str.ofString "(") := .of _ (by decide +kernel)
  have t2 : Tx 2 (Str.ofString (if ts.length == 1 then ",)" else ")")) := by
    split
    · exact .of _ (by decide +kernel)
    · exact (Tx.of (n := 1) _ (by decide +kernel)).mono (by decide)
  exact ((t1.app (Tx.joinC h)).app t2).mono (by omega)
theorem shownAll_mem : ∀ {ps : List PyData} {t : Str}, t ∈ PyData.shownAll ps → ∃ p ∈ ps, t = p.shown
  | [], _, h => absurd h List.not_mem_nil
  | p :: ps, t, h => by
    rcases List.mem_cons.mp (show t ∈ p.shown :: PyData.shownAll ps from h) with h | h
    · exact ⟨p, List.mem_cons_self, h⟩
    · obtain ⟨q, hq, e⟩ := shownAll_mem h
      exact ⟨q, List.mem_cons_of_mem _ hq, e⟩
theorem shownAll_len : ∀ {ps : List PyData}, (PyData.shownAll ps).length = ps.length
  | [] => rfl
  | p :: ps => by
    show (p.shown :: PyData.shownAll ps).length = _
    rw [List.length_cons, List.length_cons, shownAll_len]
/-- data whose text is of a bounded length -/
def Sh (n : Nat) (p : PyData) : Prop := p.showable = true ∧ Tx n p.shown
theorem Sh.mono {n m : Nat} {p : PyData} (h : Sh n p) (hm : n ≤ m) : Sh m p := ⟨h.1, h.2.mono hm⟩
theorem Sh.int {i : Int} (h : i.natAbs.log2 < 1920) : Sh 1921 (.int i) := ⟨by
  show decide _ = true
  exact decide_eq_true h, Tx.num h⟩
theorem Sh.all {n : Nat} : ∀ {ps : List PyData}, (∀ p ∈ ps, Sh n p) → PyData.showableAll ps = true
  | [], _ => rfl
  | p :: ps, h => by
    show (p.showable && PyData.showableAll ps) = true
    rw [(h p List.mem_cons_self).1, Sh.all fun q hq => h q (List.mem_cons_of_mem _ hq)]
    rfl
theorem Sh.list {n : Nat} {ps : List PyData} (h : ∀ p ∈ ps, Sh n p) : Sh (ps.length * (n + 2) + 2) (.list ps) := ⟨Sh.all h, by
  show Tx _ (listText (PyData.shownAll ps))
  rw [← shownAll_len]
  exact Tx.list fun t ht => by
    obtain ⟨p, hp, rfl⟩ := shownAll_mem ht
    exact (h p hp).2⟩
theorem Sh.tuple {n : Nat} {ps : List PyData} (h : ∀ p ∈ ps, Sh n p) : Sh (ps.length * (n + 2) + 3) (.tuple ps) := ⟨Sh.all h, by
  show Tx _ (tupleText (PyData.shownAll ps))
  rw [← shownAll_len]
  exact Tx.tuple fun t ht => by
    obtain ⟨p, hp, rfl⟩ := shownAll_mem ht
    exact (h p hp).2⟩
theorem repr_sh {n : Nat} {x : D} {p : PyData} {κ : Kap} {Q : DQ} (hp : pdata x = some p) (h : Sh n p) (hn : n ≤ 16777216) (h2 : p.depth ≤ 60) (q : Tx n p.shown → Q (.str p.shown) κ) : fRepr [x] κ Q :=
  repr_of hp h.1 h2 (Nat.le_trans h.2.1 hn) (q h.2)
/-! shape of data -/
/-- data that compares: how deep at most -/
def Sp (k : Nat) (p : PyData) : Prop := p.canLay0 = true ∧ p.depth ≤ k
theorem Sp.mono {k m : Nat} {p : PyData} (h : Sp k p) (hm : k ≤ m) : Sp m p := ⟨h.1, Nat.le_trans h.2 hm⟩
theorem Sp.int {i : Int} : Sp 0 (.int i) := ⟨rfl, Nat.le_refl _⟩
theorem Sp.bool {b : Bool} : Sp 0 (.bool b) := ⟨rfl, Nat.le_refl _⟩
theorem Sp.none : Sp 0 .none := ⟨rfl, Nat.le_refl _⟩
theorem Sp.str {n : Nat} {x : Str} (h : Tx n x) : Sp 0 (.str x) := ⟨by
  show PyData.strOk x = true
  unfold PyData.strOk
  rw [Array.all_eq_true']
  intro c hc
  exact decide_eq_true (h.2 c (Array.mem_toList_iff.mpr hc)), Nat.le_refl _⟩
theorem Sp.all {k : Nat} : ∀ {ps : List PyData}, (∀ p ∈ ps, Sp k p) → PyData.canLayAll0 ps = true ∧ PyData.depthAll ps ≤ k
  | [], _ => ⟨rfl, Nat.zero_le _⟩
  | p :: ps, h => by
    obtain ⟨a, b⟩ := Sp.all fun q hq => h q (List.mem_cons_of_mem _ hq)
    obtain ⟨c, d⟩ := h p List.mem_cons_self
    refine ⟨?_, ?_⟩
    · show (p.canLay0 && PyData.canLayAll0 ps) = true
      rw [a, c]
      rfl
    · show max p.depth (PyData.depthAll ps) ≤ k
      omega
theorem Sp.list {k : Nat} {ps : List PyData} (h : ∀ p ∈ ps, Sp k p) : Sp (k + 1) (.list ps) := ⟨(Sp.all h).1, by
  show PyData.depthAll ps + 1 ≤ k + 1
  have := (Sp.all h).2
  omega⟩
theorem Sp.tuple {k : Nat} {ps : List PyData} (h : ∀ p ∈ ps, Sp k p) : Sp (k + 1) (.tuple ps) := ⟨(Sp.all h).1, by
  show PyData.depthAll ps + 1 ≤ k + 1
  have := (Sp.all h).2
  omega⟩
theorem Sp.shaped {k : Nat} {p : PyData} (h : Sp k p) (hk : k ≤ 64) : SeqAt.shaped p = true := by
  show (p.canLay0 && decide (p.depth ≤ 64)) = true
  rw [h.1, decide_eq_true (Nat.le_trans h.2 hk)]
  rfl
theorem pdataL_map {α : Type} {f : α → D} {g : α → PyData} (h : ∀ a, pdata (f a) = some (g a)) : ∀ l : List α, pdataL (l.map f) = some (l.map g)
  | [] => rfl
  | a :: l => by
    show (match pdata (f a), pdataL (l.map f) with
      | some p, some ps => some (p :: ps)
      | _, _ => none) = _
    rw [h a, pdataL_map h l]
    rfl
theorem pdata_list {xs : List D} {ps : List PyData} (h : pdataL xs = some ps) : pdata (.node .lst xs) = some (.list ps) := by
  show (match pdataL xs with
    | some ps => some (PyData.list ps)
    | none => none) = _
  rw [h]
theorem pdata_tup {xs : List D} {ps : List PyData} (h : pdataL xs = some ps) : pdata (.node .tup xs) = some (.tuple ps) := by
  show (match pdataL xs with
    | some ps => some (PyData.tuple ps)
    | none => none) = _
  rw [h]
theorem eqvAll_refl {ps : List PyData} (h : ∀ p ∈ ps, PyData.eqv p p = true) : PyData.eqvAll ps ps = true := by
  induction ps with
  | nil => rfl
  | cons p ps ih =>
    show (PyData.eqv p p && PyData.eqvAll ps ps) = true
    rw [h p List.mem_cons_self, ih fun q hq => h q (List.mem_cons_of_mem _ hq)]
    rfl

/-! the greatest common part -/
theorem gcd_step {x y : Nat} (h : y ≠ 0) : Nat.gcd y (x % y) = Nat.gcd x y := by
  rw [Nat.gcd_comm x y, Nat.gcd_rec y x, Nat.gcd_comm]
theorem abs_nat (i : Int) : (if i < 0 then -i else i) = (i.natAbs : Int) := by
  split <;> omega
/-- the part by which a number is shortened -/
def cpt (u l : Int) : Int := if l < 0 then 0 - (Int.gcd u l : Int) else (Int.gcd u l : Int)
theorem cpt_ne {u l : Int} (h : l ≠ 0) : cpt u l ≠ 0 := by
  have := Int.gcd_pos_of_ne_zero_right u h
  unfold cpt
  split <;> omega
def rtn (u l : Int) : Int := u.fdiv (cpt u l)
def rtd (u l : Int) : Int := l.fdiv (cpt u l)
theorem cpt_dvd_l (u l : Int) : cpt u l ∣ u := by
  unfold cpt
  split
  · rw [Int.zero_sub]
    exact Int.neg_dvd.mpr (Int.gcd_dvd_left ..)
  · exact Int.gcd_dvd_left ..
theorem cpt_dvd_r (u l : Int) : cpt u l ∣ l := by
  unfold cpt
  split
  · rw [Int.zero_sub]
    exact Int.neg_dvd.mpr (Int.gcd_dvd_right ..)
  · exact Int.gcd_dvd_right ..
theorem rtn_mul (u l : Int) : rtn u l * cpt u l = u := Int.fdiv_mul_cancel (cpt_dvd_l u l)
theorem rtd_mul (u l : Int) : rtd u l * cpt u l = l := Int.fdiv_mul_cancel (cpt_dvd_r u l)
/-- in lowest terms, the base above nought -/
def NOk (a b : Int) : Prop := 0 < b ∧ Int.gcd a b = 1
theorem NOk.one (a : Int) : NOk a 1 := ⟨by decide, by rw [Int.gcd_one_right]⟩
theorem rt_ok {u l : Int} (h : l ≠ 0) : NOk (rtn u l) (rtd u l) := by
  have hp := cpt_ne (u := u) h
  have e1 := rtn_mul u l
  have e2 := rtd_mul u l
  have hg := Int.gcd_pos_of_ne_zero_right u h
  have ha : (cpt u l).natAbs = Int.gcd u l := by unfold cpt; split <;> omega
  refine ⟨?_, ?_⟩
  · by_cases hl : l < 0
    · have hc : cpt u l < 0 := by unfold cpt; rw [if_pos hl]; omega
      rcases Int.lt_trichotomy 0 (rtd u l) with h1 | h1 | h1
      · exact h1
      · rw [← h1, Int.zero_mul] at e2; omega
      · have := Int.mul_pos_of_neg_of_neg h1 hc; omega
    · have hc : 0 < cpt u l := by unfold cpt; rw [if_neg hl]; omega
      rcases Int.lt_trichotomy 0 (rtd u l) with h1 | h1 | h1
      · exact h1
      · rw [← h1, Int.zero_mul] at e2; omega
      · have := Int.mul_neg_of_neg_of_pos h1 hc; omega
  · have e : Int.gcd (rtn u l * cpt u l) (rtd u l * cpt u l) = Int.gcd (rtn u l) (rtd u l) * (cpt u l).natAbs := Int.gcd_mul_right ..
    rw [e1, e2, ha] at e
    have : 1 * Int.gcd u l = Int.gcd (rtn u l) (rtd u l) * Int.gcd u l := by rw [Nat.one_mul]; exact e
    exact (Nat.eq_of_mul_eq_mul_right hg this).symm
theorem nat_uniq {a b c d : Nat} (hb : Nat.Coprime a b) (hd : Nat.Coprime c d) (h : a * d = c * b) : b = d := by
  have h1 : b ∣ d := by
    have : b ∣ a * d := ⟨c, by rw [h, Nat.mul_comm]⟩
    exact (Nat.Coprime.symm hb).dvd_of_dvd_mul_left this
  have h2 : d ∣ b := by
    have : d ∣ c * b := ⟨a, by rw [← h, Nat.mul_comm]⟩
    exact (Nat.Coprime.symm hd).dvd_of_dvd_mul_left this
  exact Nat.dvd_antisymm h1 h2
theorem NOk.uniq {a b c d : Int} (h : NOk a b) (h' : NOk c d) (e : a * d = c * b) : a = c ∧ b = d := by
  have hb : b = d := by
    have h1 : a.natAbs * d.natAbs = c.natAbs * b.natAbs := by rw [← Int.natAbs_mul, ← Int.natAbs_mul, e]
    have := nat_uniq (show Nat.Coprime a.natAbs b.natAbs from h.2) (show Nat.Coprime c.natAbs d.natAbs from h'.2) h1
    have h2 := h.1
    have h3 := h'.1
    omega
  subst hb
  exact ⟨Int.eq_of_mul_eq_mul_right (Int.ne_of_gt h.1) e, rfl⟩
theorem rt_cross {u l : Int} : rtn u l * l = u * rtd u l := by
  have e1 := rtn_mul u l
  have e2 := rtd_mul u l
  calc rtn u l * l = rtn u l * (rtd u l * cpt u l) := by rw [e2]
    _ = rtn u l * cpt u l * rtd u l := by rw [Int.mul_comm (rtd u l), Int.mul_assoc]
    _ = u * rtd u l := by rw [e1]
/-- what is shortened to the same -/
theorem rt_is {u l a b : Int} (hl : l ≠ 0) (h : NOk a b) (e : a * l = u * b) : rtn u l = a ∧ rtd u l = b := by
  refine (rt_ok hl).uniq h ?_
  have h1 := rt_cross (u := u) (l := l)
  have h3 : (rtn u l * b) * l = (a * rtd u l) * l := by
    calc (rtn u l * b) * l = (rtn u l * l) * b := by rw [Int.mul_assoc, Int.mul_comm b l, ← Int.mul_assoc]
      _ = u * rtd u l * b := by rw [h1]
      _ = u * b * rtd u l := by rw [Int.mul_assoc, Int.mul_comm (rtd u l) b, ← Int.mul_assoc]
      _ = a * l * rtd u l := by rw [e]
      _ = (a * rtd u l) * l := by rw [Int.mul_assoc, Int.mul_comm l (rtd u l), ← Int.mul_assoc]
  exact Int.eq_of_mul_eq_mul_right hl h3
theorem rt_self {a b : Int} (h : NOk a b) : rtn a b = a ∧ rtd a b = b := rt_is (Int.ne_of_gt h.1) h rfl
theorem rt_one (a : Int) : rtn a 1 = a ∧ rtd a 1 = 1 := rt_self (.one a)
theorem rt_zero {l : Int} (h : l ≠ 0) : rtn 0 l = 0 ∧ rtd 0 l = 1 := rt_is h (.one 0) (by simp)
theorem rt_mul {u l p : Int} (hl : l ≠ 0) (hp : p ≠ 0) : rtn (u * p) (l * p) = rtn u l ∧ rtd (u * p) (l * p) = rtd u l := by
  refine rt_is (Int.mul_ne_zero hl hp) (rt_ok hl) ?_
  rw [← Int.mul_assoc, rt_cross, Int.mul_assoc, Int.mul_comm (rtd u l) p, ← Int.mul_assoc]
theorem abs_le_of_mul {a p u : Int} (e : a * p = u) (hp : p ≠ 0) : a.natAbs ≤ u.natAbs := by
  rw [← e, Int.natAbs_mul]
  exact Nat.le_mul_of_pos_right _ (by omega)
theorem rtn_le {u l : Int} (h : l ≠ 0) : (rtn u l).natAbs ≤ u.natAbs := abs_le_of_mul (rtn_mul u l) (cpt_ne h)
theorem rtd_le {u l : Int} (h : l ≠ 0) : (rtd u l).natAbs ≤ l.natAbs := abs_le_of_mul (rtd_mul u l) (cpt_ne h)
/-- a number, as it stands in the program -/
def nb (a b : Int) : D := if b = 1 then .int a else .node .tup [.int a, .int b]
def nbP (a b : Int) : PyData := if b = 1 then .int a else .tuple [.int a, .int b]
theorem nb_1 (a : Int) : nb a 1 = .int a := rfl
theorem nb_p {a b : Int} (h : b ≠ 1) : nb a b = .node .tup [.int a, .int b] := if_neg h
theorem nb_pdata (a b : Int) : pdata (nb a b) = some (nbP a b) := by
  unfold nb nbP
  split <;> rfl
theorem nbP_sp (a b : Int) : Sp 1 (nbP a b) := by
  unfold nbP
  split
  · exact Sp.int.mono (by decide)
  · exact Sp.tuple (k := 0) fun p hp => by
      simp only [List.mem_cons, List.not_mem_nil, or_false] at hp
      rcases hp with rfl | rfl <;> exact Sp.int
theorem nbP_sh {a b : Int} (ha : a.natAbs.log2 < 1920) (hb : b.natAbs.log2 < 1920) : Sh 3850 (nbP a b) := by
  unfold nbP
  split
  · exact (Sh.int ha).mono (by decide)
  · exact (Sh.tuple (n := 1921) fun p hp => by
      simp only [List.mem_cons, List.not_mem_nil, or_false] at hp
      rcases hp with rfl | rfl
      · exact Sh.int ha
      · exact Sh.int hb).mono (by simp only [List.length_cons, List.length_nil]; decide)
theorem eqv_int (a b : Int) : PyData.eqv (.int a) (.int b) = decide (a = b) := by
  show (a == b) = _
  by_cases h : a = b <;> simp [h]
theorem eqv_pair (a b c d : Int) : PyData.eqv (.tuple [.int a, .int b]) (.tuple [.int c, .int d]) = (decide (a = c) && decide (b = d)) := by
  show (PyData.eqv (.int a) (.int c) && (PyData.eqv (.int b) (.int d) && true)) = _
  rw [eqv_int, eqv_int, Bool.and_true]
theorem nbP_eqv {a b c d : Int} : PyData.eqv (nbP a b) (nbP c d) = decide (a = c ∧ b = d) := by
  unfold nbP
  by_cases hb : b = 1
  · by_cases hd : d = 1
    · rw [if_pos hb, if_pos hd, eqv_int, hb, hd]
      simp
    · rw [if_pos hb, if_neg hd]
      show false = _
      rw [decide_eq_false]
      omega
  · by_cases hd : d = 1
    · rw [if_neg hb, if_pos hd]
      show false = _
      rw [decide_eq_false]
      omega
    · rw [if_neg hb, if_neg hd, eqv_pair]
      simp
theorem f_eqN {a b c d : Int} {κ : Kap} {Q : DQ} (h : Q (.bl (decide (a = c ∧ b = d))) κ) : fEq (nb a b) (nb c d) κ Q :=
  eq_dat (nb_pdata a b) (nb_pdata c d) ((nbP_sp a b).shaped (by decide)) ((nbP_sp c d).shaped (by decide)) (by rw [nbP_eqv]; exact h)
theorem f_eqP {a b c d : Int} {κ : Kap} {Q : DQ} (h : Q (.bl (decide (a = c ∧ b = d))) κ) : fEq (.node .tup [.int a, .int b]) (.node .tup [.int c, .int d]) κ Q := by
  have sp : ∀ a b : Int, SeqAt.shaped (.tuple [.int a, .int b]) = true := fun a b => (Sp.tuple (k := 0) fun p hp => by
    simp only [List.mem_cons, List.not_mem_nil, or_false] at hp
    rcases hp with rfl | rfl <;> exact Sp.int).shaped (by decide)
  refine eq_dat (p := .tuple [.int a, .int b]) (q := .tuple [.int c, .int d]) rfl rfl (sp _ _) (sp _ _) ?_
  rw [eqv_pair, ← Bool.decide_and]
  exact h
theorem f_neN {a b c d : Int} {κ : Kap} {Q : DQ} (h : Q (.bl (!decide (a = c ∧ b = d))) κ) : fNe (nb a b) (nb c d) κ Q :=
  ne_dat (nb_pdata a b) (nb_pdata c d) ((nbP_sp a b).shaped (by decide)) ((nbP_sp c d).shaped (by decide)) (by rw [nbP_eqv]; exact h)
theorem NOk.zero {a b : Int} (h : NOk a b) : (a = 0 ∧ b = 1) ↔ a = 0 := ⟨fun h => h.1, fun e => ⟨e, by
  have h2 := h.2
  have h1 := h.1
  rw [e, Int.gcd_zero_left] at h2
  omega⟩⟩
theorem f_ne0 {a b : Int} {κ : Kap} {Q : DQ} (n : NOk a b) (h : Q (.bl (!decide (a = 0))) κ) : fNe (nb a b) (.int 0) κ Q := by
  refine f_neN (c := 0) (d := 1) ?_
  rw [decide_eq_decide.mpr n.zero]
  exact h
theorem f_eqNL {ps qs : List (Int × Int)} {κ : Kap} {Q : DQ} (h : Q (.bl (PyData.eqvAll (ps.map fun p => nbP p.1 p.2) (qs.map fun p => nbP p.1 p.2))) κ) : fEq (.node .lst (ps.map fun p => nb p.1 p.2)) (.node .lst (qs.map fun p => nb p.1 p.2)) κ Q := by
  have sp : ∀ l : List (Int × Int), SeqAt.shaped (.list (l.map fun p => nbP p.1 p.2)) = true := fun l => (Sp.list (k := 1) fun p hp => by
    obtain ⟨q, _, rfl⟩ := List.mem_map.mp hp
    exact nbP_sp _ _).shaped (by decide)
  exact eq_dat (pdata_list (pdataL_map (fun p => nb_pdata p.1 p.2) ps)) (pdata_list (pdataL_map (fun p => nb_pdata p.1 p.2) qs)) (sp ps) (sp qs) h
theorem repr_nbL {ps : List (Int × Int)} {κ : Kap} {Q : DQ} (hn : ps.length ≤ 4000) (hp : ∀ p ∈ ps, p.1.natAbs.log2 < 1920 ∧ p.2.natAbs.log2 < 1920) (q : ∀ x, x = (PyData.list (ps.map fun p => nbP p.1 p.2)).shown → Tx 16777216 x → Q (.str x) κ) : fRepr [.node .lst (ps.map fun p => nb p.1 p.2)] κ Q := by
  have h : Sh ((ps.map fun p => nbP p.1 p.2).length * (3850 + 2) + 2) (.list (ps.map fun p => nbP p.1 p.2)) := Sh.list fun p hp' => by
    obtain ⟨q, hq, rfl⟩ := List.mem_map.mp hp'
    exact nbP_sh (hp q hq).1 (hp q hq).2
  rw [List.length_map] at h
  have hd : (PyData.list (ps.map fun p => nbP p.1 p.2)).depth ≤ 60 := Nat.le_trans (Sp.list (k := 1) fun p hp => by
    obtain ⟨q, _, rfl⟩ := List.mem_map.mp hp
    exact nbP_sp _ _).2 (by decide)
  exact repr_sh (pdata_list (pdataL_map (fun p => nb_pdata p.1 p.2) ps)) h (by omega) hd fun t => q _ rfl (t.mono (by omega))
/-! calls by keywords -/
section
variable {δ : DEnv} {κ : Kap} {X : DX} {Q : DQ} {as kw : DA} {sp : DSp} {n m : Nat} {is : List Nat} {dds : List D}
theorem e_callC (h : as δ κ X fun xs κ1 => kw δ κ1 X fun ys κ2 => cC sp n m is dds xs ys κ2 (X δ) Q) : dCallC sp n m is dds as kw δ κ X Q := h
theorem c_C {xs ys zs : List D} {Y : Str → List D → Kap → Prop} (h1 : xs.length = n) (h2 : ys.length = m) (h3 : pick is (xs ++ (ys ++ dds)) = zs) (h : sp zs κ Y Q) : cC sp n m is dds xs ys κ Y Q := ⟨h1, h2, by rw [h3]; exact h⟩
end
end DL
namespace DL
open PySem PySem.Spec PyProof.Rows L2
/-- a number in lowest terms, of a bounded size -/
structure Nd (k : Nat) (a b : Int) : Prop where
  ok : NOk a b
  tb : a.natAbs < 2 ^ k
  bb : b.natAbs < 2 ^ k
theorem Nd.mono {k m : Nat} {a b : Int} (h : Nd k a b) (hm : k ≤ m) : Nd m a b :=
  ⟨h.ok, Nat.lt_of_lt_of_le h.tb (Nat.pow_le_pow_right (by decide) hm), Nat.lt_of_lt_of_le h.bb (Nat.pow_le_pow_right (by decide) hm)⟩
theorem Nd.rt {k : Nat} {u l : Int} (hl : l ≠ 0) (h1 : u.natAbs < 2 ^ k) (h2 : l.natAbs < 2 ^ k) : Nd k (rtn u l) (rtd u l) :=
  ⟨rt_ok hl, Nat.lt_of_le_of_lt (rtn_le hl) h1, Nat.lt_of_le_of_lt (rtd_le hl) h2⟩
theorem mul_bd {i j : Int} {a b : Nat} (h : i.natAbs < 2 ^ a) (h' : j.natAbs < 2 ^ b) : (i * j).natAbs < 2 ^ (a + b) := by
  rw [Int.natAbs_mul, Nat.pow_add]
  exact Nat.mul_lt_mul'' h h'
theorem add_bd {i j : Int} {a : Nat} (h : i.natAbs < 2 ^ a) (h' : j.natAbs < 2 ^ a) : (i + j).natAbs < 2 ^ (a + 1) := by
  have := Int.natAbs_add_le i j
  rw [Nat.pow_succ]
  omega
theorem sub_bd {i j : Int} {a : Nat} (h : i.natAbs < 2 ^ a) (h' : j.natAbs < 2 ^ a) : (i - j).natAbs < 2 ^ (a + 1) := by
  have := Int.natAbs_sub_le i j
  rw [Nat.pow_succ]
  omega
theorem bd_mono {i : Int} {a b : Nat} (h : i.natAbs < 2 ^ a) (hm : a ≤ b) : i.natAbs < 2 ^ b := Nat.lt_of_lt_of_le h (Nat.pow_le_pow_right (by decide) hm)
theorem Nd.b0 {k : Nat} {a b : Int} (h : Nd k a b) : b ≠ 0 := Int.ne_of_gt h.ok.1
/-- sums and differences, products and quotients -/
def pN (a b c d : Int) : Int := rtn (a * d + c * b) (b * d)
def pD (a b c d : Int) : Int := rtd (a * d + c * b) (b * d)
def mN (a b c d : Int) : Int := rtn (a * d - c * b) (b * d)
def mD (a b c d : Int) : Int := rtd (a * d - c * b) (b * d)
def tN (a b c d : Int) : Int := rtn (a * c) (b * d)
def tD (a b c d : Int) : Int := rtd (a * c) (b * d)
def oN (a b c d : Int) : Int := rtn (a * d) (b * c)
def oD (a b c d : Int) : Int := rtd (a * d) (b * c)
section
variable {k : Nat} {a b c d : Int}
theorem Nd.bd0 (h : Nd k a b) (h' : Nd k c d) : b * d ≠ 0 := Int.mul_ne_zero h.b0 h'.b0
theorem Nd.plus (h : Nd k a b) (h' : Nd k c d) : Nd (k + k + 1) (pN a b c d) (pD a b c d) := Nd.rt (h.bd0 h') (add_bd (mul_bd h.tb h'.bb) (mul_bd h'.tb h.bb)) (bd_mono (mul_bd h.bb h'.bb) (Nat.le_succ _))
theorem Nd.minus (h : Nd k a b) (h' : Nd k c d) : Nd (k + k + 1) (mN a b c d) (mD a b c d) := Nd.rt (h.bd0 h') (sub_bd (mul_bd h.tb h'.bb) (mul_bd h'.tb h.bb)) (bd_mono (mul_bd h.bb h'.bb) (Nat.le_succ _))
theorem Nd.times (h : Nd k a b) (h' : Nd k c d) : Nd (k + k + 1) (tN a b c d) (tD a b c d) := Nd.rt (h.bd0 h') (bd_mono (mul_bd h.tb h'.tb) (Nat.le_succ _)) (bd_mono (mul_bd h.bb h'.bb) (Nat.le_succ _))
theorem Nd.over (h : Nd k a b) (h' : Nd k c d) (h0 : c ≠ 0) : Nd (k + k + 1) (oN a b c d) (oD a b c d) := Nd.rt (Int.mul_ne_zero h.b0 h0) (bd_mono (mul_bd h.tb h'.bb) (Nat.le_succ _)) (bd_mono (mul_bd h.bb h'.tb) (Nat.le_succ _))
end
end DL
namespace DL
open PySem PySem.Spec PyProof.Rows L2
theorem fdiv_abs_le {x y : Int} (hy : 0 < y) : (x.fdiv y).natAbs ≤ x.natAbs + 1 := by
  have h1 := Int.mul_fdiv_add_fmod x y
  have h2 : x.fmod y < y := Int.fmod_lt_of_pos x hy
  have h3 : 0 ≤ x.fmod y := Int.fmod_nonneg_of_pos x hy
  generalize x.fdiv y = q at h1 ⊢
  generalize x.fmod y = r at h1 h2 h3
  subst h1
  by_cases hq : q = 0
  · subst hq; omega
  · have hb : q.natAbs ≤ (y * q).natAbs := by rw [Int.natAbs_mul]; exact Nat.le_mul_of_pos_left _ (by omega)
    rcases Int.lt_or_gt_of_ne hq with hq | hq
    · have e : (y * (q + 1)).natAbs = (y).natAbs * (q + 1).natAbs := Int.natAbs_mul ..
      have h5 : y * (q + 1) ≤ 0 := Int.mul_nonpos_of_nonneg_of_nonpos (by omega) (by omega)
      have h6 : y * (q + 1) = y * q + y := by rw [Int.mul_add, Int.mul_one]
      have h7 : (q + 1).natAbs ≤ y.natAbs * (q + 1).natAbs := Nat.le_mul_of_pos_left _ (by omega)
      omega
    · have h6 : 0 < y * q := Int.mul_pos hy hq
      omega
theorem f_intB {k : Bool} {κ : Kap} {Q : DQ} (h : Q (.int (if k = true then 1 else 0)) κ) : fInt [.bl k] κ Q := h
theorem f_intI {i : Int} {κ : Kap} {Q : DQ} (h : Q (.int i) κ) : fInt [.int i] κ Q := h
theorem bl2_shown : ∀ a b : Bool, (PyData.list [.bool a, .bool b]).depth ≤ 60 ∧ (PyData.list [.bool a, .bool b]).shown.length ≤ sizeLine := by decide +kernel
theorem repr_bl2 {a b : Bool} {κ : Kap} {Q : DQ} (h : Q (.str (PyData.list [.bool a, .bool b]).shown) κ) : fRepr [.lst [.bl a, .bl b]] κ Q :=
  repr_of rfl rfl (bl2_shown a b).1 (bl2_shown a b).2 h
theorem bl2_shaped : ∀ a b : Bool, SeqAt.shaped (.str (PyData.list [.bool a, .bool b]).shown) = true := by decide +kernel
theorem rt_pos {u l : Int} (hu : 0 < u) (hl : 0 < l) : 0 < rtn u l := by
  have e := rtn_mul u l
  have hc : 0 < cpt u l := by
    have := Int.gcd_pos_of_ne_zero_right u (Int.ne_of_gt hl)
    unfold cpt
    rw [if_neg (by omega)]
    omega
  rcases Int.lt_trichotomy 0 (rtn u l) with h | h | h
  · exact h
  · rw [← h, Int.zero_mul] at e; omega
  · have := Int.mul_neg_of_neg_of_pos h hc; omega
end DL

/-! DQ: steps: lists that grow, short loops, odd things. -/
namespace DL
open PySem PySem.Spec PyProof.Rows L2
section
variable {δ : DEnv} {κ : Kap} {X : DX} {Q : DQ} {a : DE} {as : DA} {T : String} {f : D1N} {n : Nat} {xs ds : List D} {d : D} {g : DG} {s : DS} {gd : Kap → Prop} {nx bk ct : DEnv → Kap → Prop} {rt : DQ} {A : Prop}
theorem e_bm (h : a δ κ X fun x κ1 => isSeq T x κ1 ∧ as δ κ1 X fun xs κ2 => f x xs κ2 Q) : dBM T f a as δ κ X Q := h
theorem isq_node (h : A) : isSeq "list" (.node .lst xs) κ ∧ A := ⟨⟨xs, rfl⟩, h⟩
theorem isq_cell (e : κ n = some (.live .lst xs)) (h : A) : isSeq "list" (.cell n) κ ∧ A := ⟨⟨xs, vw_cell e⟩, h⟩
theorem f_app (e : κ n = some (.live .lst xs)) (hl : xs.length < 16777216) (h : Q .non (kset κ n (.live .lst (xs ++ [d])))) : fAppend (.cell n) [d] κ Q := ⟨xs, e, hl, h⟩
theorem f_ixC {i : Nat} (e : κ n = some (.live .lst xs)) (hd : xs[i]? = some d) (h : Q d κ) : fIx (.cell n) (.int (i : Int)) κ Q := by
  rw [ix_cell e]
  exact ⟨d, at_nat hd, h⟩
theorem f_ixN {i : Nat} (hd : xs[i]? = some d) (h : Q d κ) : fIx (.node .lst xs) (.int (i : Int)) κ Q := ⟨d, at_nat hd, h⟩
theorem ix_memC {i : Int} (e : κ n = some (.live .lst xs)) (h0 : 0 ≤ i) (h1 : i < xs.length) (h : ∀ d ∈ xs, Q d κ) : fIx (.cell n) (.int i) κ Q := by
  rw [ix_cell e]
  obtain ⟨d, e, hd⟩ := at_of h0 h1
  exact ⟨d, e, h d hd⟩
theorem f_lnC (e : κ n = some (.live .lst xs)) (h : Q (.int (xs.length : Nat)) κ) : fLen [.cell n] κ Q := by
  unfold fLen
  simp only [vw_cell e]
  exact h
/-- a loop, turn by turn -/
theorem dl_cons (hg : gd κ) (h : g d δ κ X fun δ1 κ1 => s δ1 κ1 X ⟨dLoop g s gd X ⟨nx, rt, bk, ct⟩ ds, rt, nx, dLoop g s gd X ⟨nx, rt, bk, ct⟩ ds⟩) : dLoop g s gd X ⟨nx, rt, bk, ct⟩ (d :: ds) δ κ := ⟨hg, h⟩
theorem dl_nil (hg : gd κ) (h : nx δ κ) : dLoop g s gd X ⟨nx, rt, bk, ct⟩ [] δ κ := ⟨hg, h⟩
theorem range_0 : rangeD 0 (Int.toNat 0) = [] := rfl
theorem range_1 : rangeD 0 (Int.toNat 1) = [.int 0] := rfl
theorem range_2 : rangeD 0 (Int.toNat 2) = [.int 0, .int 1] := rfl
theorem range_3 : rangeD 0 (Int.toNat 3) = [.int 0, .int 1, .int 2] := rfl
/-- a text with itself -/
theorem f_eqSS {z : Str} (h : SeqAt.shaped (.str z) = true) (q : Q (.bl true) κ) : fEq (.str z) (.str z) κ Q := f_eqS h h (by rw [beq_self_eq_true]; exact q)
theorem f_neSS {z : Str} (h : SeqAt.shaped (.str z) = true) (q : Q (.bl false) κ) : fNe (.str z) (.str z) κ Q := f_neS h h (by rw [beq_self_eq_true]; exact q)
/-- is a truth among truths -/
theorem pdL_bls : ∀ bs : List Bool, pdataL (bs.map D.bl) = some (bs.map PyData.bool)
  | bs => pdataL_map (fun _ => rfl) bs
theorem sp_bls (bs : List Bool) : SeqAt.shaped (.list (bs.map PyData.bool)) = true := (Sp.list (k := 0) fun p hp => by
  obtain ⟨b, _, rfl⟩ := List.mem_map.mp hp
  exact Sp.bool).shaped (by decide)
theorem f_inBL {neg b : Bool} {bs : List Bool} (h : Q (.bl (if neg then !(bs.any fun c => c == b) else bs.any fun c => c == b)) κ) : fIn neg (.bl b) (.node .lst (bs.map D.bl)) κ Q := by
  have e : inP (.bool b) (.list (bs.map PyData.bool)) = bs.any fun c => c == b := by
    show (bs.map PyData.bool).any (fun z => PyData.eqv z (.bool b)) = _
    rw [List.any_map]
    rfl
  exact ⟨.bool b, .list (bs.map PyData.bool), .bl b, pd_of (pdata_list (pdL_bls bs)), rfl, sp_bls bs, ⟨_, .inl rfl⟩, by rw [e]; exact h⟩
theorem f_ixB {bs : List Bool} {b : Bool} (j : Nat) (ji : Int) (ej : (j : Int) = ji) (h1 : bs[j]? = some b) (h2 : ∀ m, m < j → bs[m]? ≠ some b) (h : Q (.int ji) κ) : fIndexB (.node .lst (bs.map D.bl)) [.bl b] κ Q := ⟨bs, b, j, rfl, rfl, h1, h2, by rw [ej]; exact h⟩
theorem repr_pd {x : D} {p : PyData} (hp : Pd κ x p) (h1 : p.showable = true) (h2 : p.depth ≤ 60) (h3 : p.shown.length ≤ sizeLine) (h : Q (.str p.shown) κ) : fRepr [x] κ Q := ⟨p, hp, h1, h2, h3, h⟩
theorem f_setD {ks : List Key} {i : D} {k : Key} {P : Kap → Prop} (e : κ n = some (.live (.dct ks) xs)) (hk : keyO i = some k) (hl : ks.length < 16777216) (h : P (kset κ n (.live (.dct (putKs ks k)) (putVs ks xs k d)))) : fSetD (.cell n) i d κ P := ⟨n, ks, xs, k, rfl, e, hk, hl, h⟩
theorem ty_cell {k : Kd} (e : κ n = some (.live k xs)) : tyK (.cell n) κ = kdTy k := by
  show (view (.cell n) κ).bind (fun p => kdTy p.1) = _
  rw [vw_cell e]
  rfl
end
/-! odd things: plain ones, lists and dicts that grow -/
def okP (p : PyData) : Bool := p.showable && (decide (p.depth ≤ 60) && (decide (p.shown.length ≤ 16777216) && SeqAt.shaped (.str p.shown)))
inductive Od (κ : Kap) : D → Prop
  | sim {d : D} {p : PyData} {t : String} (h : pdata d = some p) (ok : okP p = true) (ht : tyK d κ = some (.b t)) (no : t = "NoneType" ∨ t = "bool" ∨ t = "str" ∨ t = "tuple" ∨ t = "int") : Od κ d
  | lst {n : Nat} (h : κ n = some (.live .lst [.int 5])) : Od κ (.cell n)
  | dct {n : Nat} (h : κ n = some (.live (.dct []) [])) : Od κ (.cell n)
theorem okP_parts {p : PyData} (h : okP p = true) : p.showable = true ∧ p.depth ≤ 60 ∧ p.shown.length ≤ sizeLine ∧ SeqAt.shaped (.str p.shown) = true := by
  unfold okP at h
  rw [Bool.and_eq_true_iff, Bool.and_eq_true_iff, Bool.and_eq_true_iff] at h
  obtain ⟨h1, h2, h3, h4⟩ := h
  exact ⟨h1, of_decide_eq_true h2, of_decide_eq_true h3, h4⟩
theorem repr_ok {x : D} {p : PyData} {κ : Kap} {Q : DQ} (hp : Pd κ x p) (h : okP p = true) (q : SeqAt.shaped (.str p.shown) = true → Q (.str p.shown) κ) : fRepr [x] κ Q :=
  repr_pd hp (okP_parts h).1 (okP_parts h).2.1 (okP_parts h).2.2.1 (q (okP_parts h).2.2.2)
end DL
namespace DL
open PySem PySem.Spec PyProof.Rows L2
section
variable {δ : DEnv} {κ : Kap} {X : DX} {Q : DQ} {a b : DE} {x y : D} {k : Bool}
theorem e_ifx (ha : ∀ Q : DQ, Q x κ → a δ κ X Q) (hb : ∀ Q : DQ, Q y κ → b δ κ X Q) (h : ∀ z, (k = true → z = x) → (k = false → z = y) → Q z κ) : if k = true then a δ κ X Q else b δ κ X Q := by
  cases k
  · rw [if_neg (by decide)]
    exact hb _ (h y (fun z => by cases z) fun _ => rfl)
  · rw [if_pos rfl]
    exact ha _ (h x (fun _ => rfl) fun z => by cases z)
theorem f_inBr {neg c : Bool} {bs : List Bool} (r : Bool) (e : (if neg = true then !(bs.any fun z => z == c) else bs.any fun z => z == c) = r) (h : Q (.bl r) κ) : fIn neg (.bl c) (.node .lst (bs.map D.bl)) κ Q := f_inBL (by rw [e]; exact h)
theorem fr_at {bx m n : Nat} {κ' : Kap} {c : Cell} (f : Fr bx κ κ') (hB : Bx bx m κ) (e : κ n = some c) (h : ∀ x y z, c ≠ .live .lst [.int x, .int y, .int z]) : κ' n = some c := f _ _ (fun q => by
  obtain ⟨x, y, z, e1, _⟩ := hB
  rw [q, e1] at e
  cases e
  exact h _ _ _ rfl) e
theorem kk {m n : Nat} {c c' : Cell} (e : κ m = some c) (h : κ n = none) : kset κ n c' m = some c := by
  rw [kset_ne (kne e h)]
  exact e
theorem kp {m n : Nat} {c c' : Cell} (e : κ m = some c) (h : m ≠ n) : kset κ n c' m = some c := by
  rw [kset_ne h]
  exact e
theorem kd {m n : Nat} {c c' : Cell} (e : κ m = some c) (e' : κ n = some c') (h : c ≠ c') : m ≠ n := fun q => h (by rw [q, e'] at e; exact (Option.some.inj e).symm)
end
theorem pd_cl {κ : Kap} {n : Nat} {xs : List D} {ps : List PyData} (e : κ n = some (.live .lst xs)) (h : pdataL xs = some ps) : Pd κ (.cell n) (.list ps) := .lst (vw_cell e) (pdL_of h)
theorem pd_cd {κ : Kap} {n : Nat} {ks : List Key} {xs : List D} {ps : List PyData} (e : κ n = some (.live (.dct ks) xs)) (h : pdataL xs = some ps) : Pd κ (.cell n) (.dict ((ks.map keyP).zip ps)) := .dct (vw_cell e) (pdL_of h)
end DL

/-! DR: numbers as rational ones. -/
namespace DL
open PySem PySem.Spec PyProof.Rows L2
def nq (q : Rat) : D := nb q.num q.den
def Sz (k : Nat) (q : Rat) : Prop := q.num.natAbs < 2 ^ k ∧ q.den < 2 ^ k
theorem nq_ok (q : Rat) : NOk q.num q.den := ⟨by have := q.den_pos; omega, q.reduced⟩
theorem nq_int (i : Int) : nq (i : Rat) = .int i := rfl
theorem nq_nd {k : Nat} {q : Rat} (h : Sz k q) : Nd k q.num q.den := ⟨nq_ok q, h.1, by have := h.2; omega⟩
theorem rt_q {u l : Int} (hl : l ≠ 0) : rtn u l = (Rat.divInt u l).num ∧ rtd u l = ((Rat.divInt u l).den : Int) := by
  refine rt_is hl (nq_ok _) ?_
  have h := Rat.num_divInt_den (Rat.divInt u l)
  have hd : ((Rat.divInt u l).den : Int) ≠ 0 := by have := (Rat.divInt u l).den_pos; omega
  exact (Rat.divInt_eq_divInt_iff hd hl).mp h
theorem nb_rt {u l : Int} (hl : l ≠ 0) : nb (rtn u l) (rtd u l) = nq (Rat.divInt u l) := by
  unfold nq
  rw [(rt_q hl).1, (rt_q hl).2]
theorem Sz.divInt {k : Nat} {u l : Int} (hl : l ≠ 0) (h1 : u.natAbs < 2 ^ k) (h2 : l.natAbs < 2 ^ k) : Sz k (Rat.divInt u l) := by
  have n := Nd.rt hl h1 h2
  rw [(rt_q hl).1, (rt_q hl).2] at n
  exact ⟨n.tb, by have := n.bb; omega⟩
theorem Sz.mono {k m : Nat} {q : Rat} (h : Sz k q) (hm : k ≤ m) : Sz m q := ⟨Nat.lt_of_lt_of_le h.1 (Nat.pow_le_pow_right (by decide) hm), Nat.lt_of_lt_of_le h.2 (Nat.pow_le_pow_right (by decide) hm)⟩
theorem Sz.db {k : Nat} {q : Rat} (h : Sz k q) : (q.den : Int).natAbs < 2 ^ k := by have := h.2; omega
theorem Sz.d0 (q : Rat) : (q.den : Int) ≠ 0 := by have := q.den_pos; omega
theorem Sz.int {k : Nat} {i : Int} (h : i.natAbs < 2 ^ k) (hk : 1 ≤ k) : Sz k (i : Rat) := ⟨h, Nat.one_lt_two_pow (by omega)⟩
theorem q_add (p q : Rat) : p + q = Rat.divInt (p.num * q.den + q.num * p.den) (p.den * q.den) := by
  conv => lhs; rw [← Rat.num_divInt_den p, ← Rat.num_divInt_den q]
  exact Rat.divInt_add_divInt _ _ (Sz.d0 p) (Sz.d0 q)
theorem q_sub (p q : Rat) : p - q = Rat.divInt (p.num * q.den - q.num * p.den) (p.den * q.den) := by
  conv => lhs; rw [← Rat.num_divInt_den p, ← Rat.num_divInt_den q]
  exact Rat.divInt_sub_divInt _ _ (Sz.d0 p) (Sz.d0 q)
theorem q_mul (p q : Rat) : p * q = Rat.divInt (p.num * q.num) (p.den * q.den) := by
  conv => lhs; rw [← Rat.num_divInt_den p, ← Rat.num_divInt_den q]
  exact Rat.divInt_mul_divInt _ _
theorem q_div (p q : Rat) : p / q = Rat.divInt (p.num * q.den) (p.den * q.num) := by
  rw [Rat.div_def]
  conv => lhs; rw [← Rat.num_divInt_den p, ← Rat.num_divInt_den q]
  rw [Rat.inv_divInt]
  exact Rat.divInt_mul_divInt _ _
theorem q_num0 {q : Rat} (h : q ≠ 0) : q.num ≠ 0 := fun z => h (Rat.num_eq_zero.mp z)
section
variable {k j : Nat} {p q : Rat}
theorem Sz.dd (p q : Rat) : (p.den : Int) * q.den ≠ 0 := Int.mul_ne_zero (Sz.d0 p) (Sz.d0 q)
theorem Sz.add (h : Sz k p) (h' : Sz j q) : Sz (k + j + 1) (p + q) := by
  rw [q_add]
  exact .divInt (Sz.dd p q) (add_bd (mul_bd h.1 h'.db) (by rw [Nat.add_comm]; exact mul_bd h'.1 h.db)) (bd_mono (mul_bd h.db h'.db) (by omega))
theorem Sz.sub (h : Sz k p) (h' : Sz j q) : Sz (k + j + 1) (p - q) := by
  rw [q_sub]
  exact .divInt (Sz.dd p q) (sub_bd (mul_bd h.1 h'.db) (by rw [Nat.add_comm]; exact mul_bd h'.1 h.db)) (bd_mono (mul_bd h.db h'.db) (by omega))
theorem Sz.mul (h : Sz k p) (h' : Sz j q) : Sz (k + j) (p * q) := by
  rw [q_mul]
  exact .divInt (Sz.dd p q) (mul_bd h.1 h'.1) (mul_bd h.db h'.db)
theorem Sz.div (h : Sz k p) (h' : Sz j q) (h0 : q ≠ 0) : Sz (k + j) (p / q) := by
  rw [q_div]
  exact .divInt (Int.mul_ne_zero (Sz.d0 p) (q_num0 h0)) (mul_bd h.1 h'.db) (mul_bd h.db h'.1)
end
theorem divInt_1 (i : Int) : Rat.divInt i 1 = (i : Rat) := by
  have := Rat.num_divInt_den (i : Rat)
  exact this
theorem divInt_q (a b : Int) : Rat.divInt a b = (a : Rat) / (b : Rat) := by
  rw [q_div]
  show _ = Rat.divInt (a * 1) (1 * b)
  rw [Int.mul_one, Int.one_mul]
theorem nq_inj {p q : Rat} : (p.num = q.num ∧ (p.den : Int) = q.den) ↔ p = q := ⟨fun h => by
  rw [← Rat.num_divInt_den p, ← Rat.num_divInt_den q, h.1, h.2], fun h => by rw [h]; exact ⟨rfl, rfl⟩⟩
/-- one by a whole number -/
theorem nq_inv {s : Int} (h : 0 < s) : nq (1 / (s : Rat)) = nb 1 s := by
  have e : (1 : Rat) / (s : Rat) = Rat.divInt 1 s := (divInt_q 1 s).symm
  rw [e, ← nb_rt (by omega)]
  have := rt_self (a := 1) (b := s) ⟨h, by rw [Int.one_gcd]⟩
  rw [this.1, this.2]
def nqP (q : Rat) : PyData := nbP q.num q.den
theorem nq_pdata (q : Rat) : pdata (nq q) = some (nqP q) := nb_pdata _ _
theorem nqP_sp (q : Rat) : Sp 1 (nqP q) := nbP_sp _ _
theorem nqP_eqv (p q : Rat) : PyData.eqv (nqP p) (nqP q) = decide (p = q) := by
  unfold nqP
  rw [nbP_eqv]
  exact decide_eq_decide.mpr nq_inj
theorem f_eqQ {p q : Rat} {κ : Kap} {Q : DQ} (h : Q (.bl (decide (p = q))) κ) : fEq (nq p) (nq q) κ Q := by
  refine f_eqN ?_
  rw [decide_eq_decide.mpr nq_inj]
  exact h
/-- places: two numbers -/
def plD (x y : Rat) : D := .node .tup [nq x, nq y]
def plP (x y : Rat) : PyData := .tuple [nqP x, nqP y]
theorem plD_pdata (x y : Rat) : pdata (plD x y) = some (plP x y) := pdata_tup (by
  show (match pdata (nq x), pdataL [nq y] with
    | some p, some ps => some (p :: ps)
    | _, _ => none) = _
  rw [nq_pdata]
  show (match some (nqP x), (match pdata (nq y), pdataL [] with
    | some p, some ps => some (p :: ps)
    | _, _ => none) with
    | some p, some ps => some (p :: ps)
    | _, _ => none) = _
  rw [nq_pdata]
  rfl)
theorem plP_sp (x y : Rat) : Sp 2 (plP x y) := Sp.tuple (k := 1) fun p hp => by
  simp only [List.mem_cons, List.not_mem_nil, or_false] at hp
  rcases hp with rfl | rfl <;> exact nqP_sp _
theorem plP_eqv (x y u v : Rat) : PyData.eqv (plP x y) (plP u v) = decide (x = u ∧ y = v) := by
  show (PyData.eqv (nqP x) (nqP u) && (PyData.eqv (nqP y) (nqP v) && true)) = _
  rw [nqP_eqv, nqP_eqv, Bool.and_true, Bool.decide_and]
theorem f_eqPl {x y u v : Rat} {κ : Kap} {Q : DQ} (h : Q (.bl (decide (x = u ∧ y = v))) κ) : fEq (plD x y) (plD u v) κ Q :=
  eq_dat (plD_pdata x y) (plD_pdata u v) ((plP_sp _ _).shaped (by decide)) ((plP_sp _ _).shaped (by decide)) (by rw [plP_eqv]; exact h)
theorem f_nePl {x y u v : Rat} {κ : Kap} {Q : DQ} (h : Q (.bl (!decide (x = u ∧ y = v))) κ) : fNe (plD x y) (plD u v) κ Q :=
  ne_dat (plD_pdata x y) (plD_pdata u v) ((plP_sp _ _).shaped (by decide)) ((plP_sp _ _).shaped (by decide)) (by rw [plP_eqv]; exact h)
end DL
namespace DL
open PySem PySem.Spec PyProof.Rows L2
/-! a box of four -/
section
variable {κ : Kap} {Q : DQ} {d x y z w : D} {xs : List D}
theorem f_ic3 {N : Nat} (e : κ N = some (.live .lst (x :: y :: z :: d :: xs))) (h : Q d κ) : fIx (.cell N) (.int 3) κ Q := by rw [ix_cell e, at_3]; exact h
theorem f_ik3 {N : Nat} (h : Q d (kset κ N (.live .lst (x :: y :: z :: d :: xs)))) : fIx (.cell N) (.int 3) (kset κ N (.live .lst (x :: y :: z :: d :: xs))) Q := f_ic3 kset_same h
theorem f_se3 {N : Nat} {P : Kap → Prop} (e : κ N = some (.live .lst (x :: y :: z :: w :: xs))) (h : P (kset κ N (.live .lst (x :: y :: z :: d :: xs)))) : fSet (.cell N) (.int 3) d κ P := by rw [se_3 e]; exact h
end
def By (b m : Nat) (κ : Kap) : Prop := ∃ x y u z : Int, κ b = some (.live .lst [.int x, .int y, .int u, .int z]) ∧ (0 ≤ y ∧ y < 2 ^ 31) ∧ (0 ≤ u ∧ u < 2 ^ 31) ∧ 0 ≤ z ∧ z ≤ (m : Int)
theorem By.mono {b m m' : Nat} {κ : Kap} (h : By b m κ) (hm : m ≤ m') : By b m' κ := let ⟨x, y, u, z, h1, h2, h3, h4, h5⟩ := h; ⟨x, y, u, z, h1, h2, h3, h4, by omega⟩
theorem By.is {b m : Nat} {κ : Kap} (h : By b m κ) : ∃ k xs, κ b = some (.live k xs) := let ⟨_, _, _, _, h1, _⟩ := h; ⟨_, _, h1⟩
theorem By.ne {b m n : Nat} {κ : Kap} (h : By b m κ) (hn : κ n = none) : n ≠ b := fun e => by obtain ⟨_, _, q⟩ := h.is; rw [e] at hn; rw [hn] at q; cases q
theorem By.set {b m n : Nat} {κ : Kap} {c : Cell} (h : By b m κ) (hn : n ≠ b) : By b m (kset κ n c) := let ⟨x, y, u, z, h1, h2⟩ := h; ⟨x, y, u, z, by rw [kset_ne hn.symm]; exact h1, h2⟩
/-! multi-clause steps -/
section
variable {δ : DEnv} {κ : Kap} {X : DX} {Q : DQ} {it : DI} {t : TN} {tt : DT} {vs : List Nat} {rest : DK} {K : Kap → Prop} {a e : DE} {as : DA} {n : Nat} {gd : Kap → Prop} {items : List D} {d : D}
theorem e_lcG {r : Nat → DK} (h : it δ κ X fun items gd κ1 => ∀ n, κ1 n = none → cLoop t tt vs (r n) gd δ (fun κ' => ∃ acc, κ' n = some (.live .lst acc) ∧ Q (.node .lst acc) (kset κ' n .dead)) items (kset κ1 n (.live .lst []))) : dLcG false it t tt r vs δ κ X Q := h
theorem k_for (h : it δ κ XF fun items gd κ1 => cLoop t tt vs rest gd δ K items κ1) : cFor it t tt vs rest δ κ K := h
theorem k_elt (h : e δ κ XF fun y κ3 => ∃ acc, κ3 n = some (.live .lst acc) ∧ acc.length < sizeLine ∧ K (kset κ3 n (.live .lst (acc ++ [y])))) : cElt n e δ κ K := h
theorem cLoop_ind (I : List D → Kap → Prop) (h0 : ∀ κ, I [] κ → gd κ ∧ K κ)
    (hs : ∀ d ds κ (L : Kap → Prop), (∀ κ, I ds κ → L κ) → I (d :: ds) κ → gd κ ∧ ∃ δ1, bindT t d (dwipe δ vs) κ = some δ1 ∧ tt δ1 κ XF fun b κ2 => if b = true then rest δ1 κ2 L else L κ2) : ∀ ds κ, I ds κ → cLoop t tt vs rest gd δ K ds κ
  | [], κ, h => h0 κ h
  | d :: ds, κ, h => hs d ds κ _ (cLoop_ind I h0 hs ds) h
theorem cl_ix (I : Nat → Kap → Prop) (h0 : ∀ κ, I items.length κ → gd κ ∧ K κ)
    (hs : ∀ i d κ (L : Kap → Prop), items[i]? = some d → (∀ κ, I (i + 1) κ → L κ) → I i κ → gd κ ∧ ∃ δ1, bindT t d (dwipe δ vs) κ = some δ1 ∧ tt δ1 κ XF fun b κ2 => if b = true then rest δ1 κ2 L else L κ2) (h : I 0 κ) : cLoop t tt vs rest gd δ K items κ := by
  refine cLoop_ind (fun ds κ => ∃ i, ds = items.drop i ∧ i ≤ items.length ∧ I i κ) ?_ ?_ items κ ⟨0, rfl, Nat.zero_le _, h⟩
  · rintro κ ⟨i, e, hi, h⟩
    have : i = items.length := by
      have := congrArg List.length e
      simp at this
      omega
    subst this
    exact h0 κ h
  · rintro d ds κ L hL ⟨i, e, hi, h⟩
    have hlt : i < items.length := by
      have := congrArg List.length e
      simp at this
      omega
    rw [List.drop_eq_getElem_cons hlt] at e
    injection e with e1 e2
    exact hs i d κ L (by rw [e1]; exact List.getElem?_eq_getElem hlt) (fun κ q => hL κ ⟨i + 1, e2, hlt, q⟩) h
theorem i_en {QI : List D → (Kap → Prop) → Kap → Prop} (h : as δ κ X (eQ QI)) : iEnumD as δ κ X QI := h
theorem en_N {QI : List D → (Kap → Prop) → Kap → Prop} {ys : List D} (h : QI (enumD 0 ys) gTrue κ) : eQ QI [.node .lst ys] κ := h
theorem en_C {QI : List D → (Kap → Prop) → Kap → Prop} {ys : List D} (e : κ n = some (.live .lst ys)) (h : QI (enumD 0 ys) (fun κ => κ n = some (.live .lst ys)) κ) : eQ QI [.cell n] κ := ⟨ys, e, h⟩
theorem e_tupOf (h : a δ κ X fun x κ1 => fTup x κ1 Q) : dTupOf a δ κ X Q := h
theorem tp_L {ys : List D} (h : Q (.node .tup ys) κ) : fTup (.node .lst ys) κ Q := .inl ⟨ys, rfl, h⟩
theorem tp_T {ys : List D} (h : Q (.node .tup ys) κ) : fTup (.node .tup ys) κ Q := .inr ⟨ys, rfl, h⟩
theorem tp_C {ys : List D} (e : κ n = some (.live .lst ys)) (h : Q (.node .tup ys) κ) : fTup (.cell n) κ Q := .inl ⟨ys, vw_cell e, h⟩
theorem e_rev {m : Bool} (h : a δ κ X fun x κ1 => fRev m x κ1 Q) : dRev m a δ κ X Q := h
theorem rv_N {ys : List D} (h : Q (.node .lst ys.reverse) κ) : fRev false (.node .lst ys) κ Q := ⟨ys, rfl, h⟩
theorem rv_C {ys : List D} (e : κ n = some (.live .lst ys)) (h : Q (.node .lst ys.reverse) κ) : fRev false (.cell n) κ Q := ⟨ys, vw_cell e, h⟩
theorem q_cell {QI : List D → (Kap → Prop) → Kap → Prop} {ys : List D} (e : κ n = some (.live .lst ys)) (h : QI ys (fun κ => κ n = some (.live .lst ys)) κ) : sQ QI (.cell n) κ := by
  unfold sQ
  simp only [e]
  exact h
theorem sl_N {m : Bool} {ys : List D} {lo hi : Option Int} (h : fNew m .lst (cutD ys lo hi) κ Q) : fSl m (.node .lst ys) lo hi κ Q := h
theorem sl_C {m : Bool} {ys : List D} {lo hi : Option Int} (e : κ n = some (.live .lst ys)) (h : fNew m .lst (cutD ys lo hi) κ Q) : fSl m (.cell n) lo hi κ Q := by
  unfold fSl
  simp only [vw_cell e]
  exact h
theorem s_aug {i : Nat} {f : D2} {x : D} {nx : DEnv → Kap → Prop} {rt : DQ} {bk ct : DEnv → Kap → Prop} (e0 : δ[i]? = some (some x)) (h : a δ κ X fun y κ1 => f x y κ1 fun z κ2 => nx (δ.set i (some z)) κ2) : sAug i f a δ κ X ⟨nx, rt, bk, ct⟩ := ⟨x, e0, h⟩
theorem f_adII {i j : Int} (h : Q (.int (i + j)) κ) : fAddI (.int i) (.int j) κ Q := ⟨i, j, rfl, rfl, h⟩
end
end DL
namespace DL
open PySem PySem.Spec PyProof.Rows L2
/-! what can be walked -/
def Fa (κ κ' : Kap) : Prop := ∀ n c, κ n = some c → κ' n = some c
theorem Fa.refl {κ : Kap} : Fa κ κ := fun _ _ h => h
theorem Fa.trans {κ κ1 κ2 : Kap} (h : Fa κ κ1) (g : Fa κ1 κ2) : Fa κ κ2 := fun n c e => g n c (h n c e)
theorem Fa.new {κ : Kap} {n : Nat} {c : Cell} (h : κ n = none) : Fa κ (kset κ n c) := fun m d e => by rw [kset_ne (kne e h)]; exact e
theorem Fa.put {κ κ' : Kap} {n : Nat} {c : Cell} (f : Fa κ κ') (h : κ n = none) : Fa κ (kset κ' n c) := fun m d e => by rw [kset_ne (kne e h)]; exact f m d e
inductive Wk (κ : Kap) : D → List D → Prop
  | lst {xs : List D} : Wk κ (.node .lst xs) xs
  | tup {xs : List D} : Wk κ (.node .tup xs) xs
  | cell {n : Nat} {xs : List D} (h : κ n = some (.live .lst xs)) : Wk κ (.cell n) xs
theorem Wk.mono {κ κ' : Kap} {d : D} {xs : List D} (h : Wk κ d xs) (f : Fa κ κ') : Wk κ' d xs := by
  cases h with
  | lst => exact .lst
  | tup => exact .tup
  | cell e => exact .cell (f _ _ e)
theorem q_wk {κ : Kap} {d : D} {xs : List D} {QI : List D → (Kap → Prop) → Kap → Prop} (h : Wk κ d xs) (q : ∀ gd : Kap → Prop, (∀ κ', Fa κ κ' → gd κ') → QI xs gd κ) : sQ QI d κ := by
  cases h with
  | lst => exact q_L (q _ fun _ _ => trivial)
  | tup => exact q_T (q _ fun _ _ => trivial)
  | cell e => exact q_cell e (q _ fun κ' f => f _ _ e)
theorem f_lnW {κ : Kap} {d : D} {xs : List D} {Q : DQ} (h : Wk κ d xs) (q : Q (.int (xs.length : Nat)) κ) : fLen [d] κ Q := by
  cases h with
  | lst => exact q
  | tup => exact q
  | cell e => exact f_lnC e q
end DL
namespace DL
open PySem PySem.Spec PyProof.Rows L2
theorem q_wk2 {κ0 κ : Kap} {d : D} {xs : List D} {QI : List D → (Kap → Prop) → Kap → Prop} (h : Wk κ0 d xs) (f : Fa κ0 κ) (q : ∀ gd : Kap → Prop, (∀ κ', Fa κ0 κ' → gd κ') → QI xs gd κ) : sQ QI d κ := by
  cases h with
  | lst => exact q_L (q _ fun _ _ => trivial)
  | tup => exact q_T (q _ fun _ _ => trivial)
  | cell e => exact q_cell (f _ _ e) (q _ fun κ' f' => f' _ _ e)
end DL
namespace DL
open PySem PySem.Spec PyProof.Rows L2
section
variable {δ : DEnv} {κ : Kap} {t : TN} {tt : DT} {vs : List Nat} {rest : DK} {K : Kap → Prop} {gd : Kap → Prop} {items : List D} {d : D}
theorem cl_cons (hg : gd κ) (h : ∃ δ1, bindT t d (dwipe δ vs) κ = some δ1 ∧ tt δ1 κ XF fun b κ2 => if b = true then rest δ1 κ2 (cLoop t tt vs rest gd δ K items) else cLoop t tt vs rest gd δ K items κ2) : cLoop t tt vs rest gd δ K (d :: items) κ := ⟨hg, h⟩
theorem cl_nil (hg : gd κ) (h : K κ) : cLoop t tt vs rest gd δ K [] κ := ⟨hg, h⟩
end
end DL
namespace DL
open PySem PySem.Spec PyProof.Rows L2
/-- the place ahead, the last one ahead of the first -/
def prevI (n i : Nat) : Nat := if i = 0 then n - 1 else i - 1
theorem at_prev {α : Type} {xs : List α} {i : Nat} {a : α} (hi : i < xs.length) (h : xs[prevI xs.length i]? = some a) : atI xs ((i : Int) - 1) = some a := by
  unfold prevI at h
  by_cases h0 : i = 0
  · subst h0
    rw [if_pos rfl] at h
    unfold atI ixN
    rw [if_neg (by omega), if_pos (by omega)]
    have e : ((xs.length : Int) + (((0 : Nat) : Int) - 1)).toNat = xs.length - 1 := by omega
    first
      | (rw [e]; exact h)
      | (show xs[_]? = _; rw [show ((((0 : Nat) : Int) - 1) + (xs.length : Int)).toNat = xs.length - 1 by omega]; exact h)
  · rw [if_neg h0] at h
    rw [show (i : Int) - 1 = ((i - 1 : Nat) : Int) by omega]
    exact at_nat h
def cr (p q : Int × Int) : Int := p.1 * q.2 - p.2 * q.1
def sumTo (ps : List (Int × Int)) : Nat → Int
  | 0 => 0
  | i + 1 => sumTo ps i + cr (ps.getD (prevI ps.length i) (0, 0)) (ps.getD i (0, 0))
def prD (p : Int × Int) : D := .node .tup [.int p.1, .int p.2]
def sgI (s : Int) : Int := (if decide (0 < s) = true then 1 else 0) - (if decide (s < 0) = true then 1 else 0)
end DL
namespace DL
open PySem PySem.Spec PyProof.Rows L2
/-! areas of rounds -/
/-- along a row of points -/
def pth (a : Int × Int) : List (Int × Int) → Int
  | [] => 0
  | b :: r => cr a b + pth b r
def lastP (a : Int × Int) : List (Int × Int) → Int × Int
  | [] => a
  | b :: r => lastP b r
def areaL : List (Int × Int) → Int
  | [] => 0
  | p :: r => pth p (r ++ [p])
theorem pth_app (b : Int × Int) (r : List (Int × Int)) : ∀ (l : List (Int × Int)) (a : Int × Int), pth a (l ++ b :: r) = pth a (l ++ [b]) + pth b r
  | [], a => by show cr a b + pth b r = cr a b + 0 + pth b r; omega
  | c :: l, a => by
    show cr a c + pth c (l ++ b :: r) = cr a c + pth c (l ++ [b]) + pth b r
    rw [pth_app b r l c]; omega
theorem pth_snoc (b : Int × Int) : ∀ (l : List (Int × Int)) (a : Int × Int), pth a (l ++ [b]) = pth a l + cr (lastP a l) b
  | [], a => by show cr a b + 0 = 0 + cr a b; omega
  | c :: l, a => by
    show cr a c + pth c (l ++ [b]) = cr a c + pth c l + cr (lastP c l) b
    rw [pth_snoc b l c]; omega
theorem area_rot (l m : List (Int × Int)) : areaL (l ++ m) = areaL (m ++ l) := by
  cases l with
  | nil => simp
  | cons a l =>
    cases m with
    | nil => simp
    | cons b m =>
      show pth a (l ++ b :: m ++ [a]) = pth b (m ++ a :: l ++ [b])
      have h1 := pth_app b (m ++ [a]) l a
      have h2 := pth_app a (l ++ [b]) m b
      rw [List.append_assoc, List.append_assoc, List.cons_append, List.cons_append]
      omega
theorem cr_swap (a b : Int × Int) : cr a b = - cr b a := by unfold cr; grind
theorem pth_rev (b : Int × Int) : ∀ (l : List (Int × Int)) (a : Int × Int), pth b (l.reverse ++ [a]) = - pth a (l ++ [b])
  | [], a => by show cr b a + 0 = -(cr a b + 0); rw [cr_swap b a]; omega
  | c :: l, a => by
    show _ = -(cr a c + pth c (l ++ [b]))
    rw [List.reverse_cons, List.append_assoc, List.cons_append, List.nil_append, pth_app, pth_rev b l c]
    show _ + (cr c a + 0) = _
    rw [cr_swap c a]; omega
theorem area_rev (l : List (Int × Int)) : areaL l.reverse = - areaL l := by
  cases l with
  | nil => rfl
  | cons p r =>
    rw [List.reverse_cons, area_rot]
    show pth p (r.reverse ++ [p]) = - pth p (r ++ [p])
    exact pth_rev p r p
def shP (t : Int × Int) (g : Int) (p : Int × Int) : Int × Int := ((p.1 + t.1) * g, (p.2 + t.2) * g)
theorem pth_sh (t : Int × Int) (g : Int) : ∀ (l : List (Int × Int)) (a : Int × Int), pth (shP t g a) (l.map (shP t g)) = g * g * (pth a l + cr t (lastP a l) - cr t a)
  | [], a => by show 0 = g * g * (0 + cr t a - cr t a); grind
  | b :: l, a => by
    show cr (shP t g a) (shP t g b) + pth (shP t g b) (l.map (shP t g)) = g * g * (cr a b + pth b l + cr t (lastP b l) - cr t a)
    rw [pth_sh t g l b]
    unfold cr shP
    grind
theorem lastP_snoc (b : Int × Int) : ∀ (l : List (Int × Int)) (a : Int × Int), lastP a (l ++ [b]) = b
  | [], _ => rfl
  | c :: l, _ => lastP_snoc b l c
theorem area_sh (t : Int × Int) (g : Int) (l : List (Int × Int)) : areaL (l.map (shP t g)) = g * g * areaL l := by
  cases l with
  | nil => show 0 = g * g * 0; grind
  | cons p r =>
    show pth (shP t g p) (r.map (shP t g) ++ [shP t g p]) = g * g * pth p (r ++ [p])
    have := pth_sh t g (r ++ [p]) p
    rw [lastP_snoc, List.map_append] at this
    rw [show r.map (shP t g) ++ [shP t g p] = r.map (shP t g) ++ [p].map (shP t g) from rfl, this]
    grind
theorem lastP_take (p : Int × Int) (r : List (Int × Int)) : ∀ j, j < (p :: r).length → lastP p (r.take j) = (p :: r).getD j (0, 0) := by
  intro j hj
  induction j generalizing p r with
  | zero => rfl
  | succ j ih =>
    cases r with
    | nil => simp at hj
    | cons b r =>
      show lastP b (r.take j) = (b :: r).getD j (0, 0)
      exact ih b r (by simp at hj ⊢; omega)
theorem take_succD (r : List (Int × Int)) (j : Nat) (h : j < r.length) : r.take (j + 1) = r.take j ++ [r.getD j (0, 0)] := by
  rw [List.take_add_one, List.getElem?_eq_getElem h, List.getD_eq_getElem?_getD, List.getElem?_eq_getElem h]
  rfl
theorem sumTo_area (ps : List (Int × Int)) : DL.sumTo ps ps.length = areaL ps := by
  cases ps with
  | nil => rfl
  | cons p r =>
    have key : ∀ j, j ≤ r.length → DL.sumTo (p :: r) (j + 1) = cr ((p :: r).getD r.length (0, 0)) p + pth p (r.take j) := by
      intro j
      induction j with
      | zero =>
        intro _
        show 0 + cr ((p :: r).getD (prevI (p :: r).length 0) (0, 0)) p = _ + 0
        unfold prevI
        rw [if_pos rfl]
        simp
      | succ j ih =>
        intro hj
        show DL.sumTo (p :: r) (j + 1) + cr ((p :: r).getD (prevI (p :: r).length (j + 1)) (0, 0)) ((p :: r).getD (j + 1) (0, 0)) = _
        rw [ih (by omega), take_succD r j (by omega), pth_snoc, lastP_take p r j (by simp; omega)]
        unfold prevI
        rw [if_neg (by omega)]
        show _ + cr ((p :: r).getD j (0, 0)) (r.getD j (0, 0)) = _
        omega
    have h1 := key r.length (Nat.le_refl _)
    rw [List.take_length] at h1
    show DL.sumTo (p :: r) (r.length + 1) = pth p (r ++ [p])
    rw [h1, pth_snoc]
    have h2 := lastP_take p r r.length (by simp)
    rw [List.take_length] at h2
    rw [h2]
    omega
/-- the place behind, the first one behind the last -/
def sumNx (ps : List (Int × Int)) : Nat → Int
  | 0 => 0
  | i + 1 => sumNx ps i + (ps.getD i (0, 0)).1 * (ps.getD ((i + 1) % ps.length) (0, 0)).2 - (ps.getD i (0, 0)).2 * (ps.getD ((i + 1) % ps.length) (0, 0)).1
theorem sumNx_area (ps : List (Int × Int)) : sumNx ps ps.length = areaL ps := by
  cases ps with
  | nil => rfl
  | cons p r =>
    have key : ∀ j, j ≤ r.length → sumNx (p :: r) j = pth p (r.take j) := by
      intro j
      induction j with
      | zero => intro _; rfl
      | succ j ih =>
        intro hj
        rw [take_succD r j (by omega), pth_snoc, lastP_take p r j (by simp; omega)]
        show sumNx (p :: r) j + _ - _ = _
        rw [ih (by omega)]
        have : (j + 1) % (p :: r).length = j + 1 := Nat.mod_eq_of_lt (by simp; omega)
        rw [this]
        show _ + ((p :: r).getD j (0, 0)).1 * (r.getD j (0, 0)).2 - ((p :: r).getD j (0, 0)).2 * (r.getD j (0, 0)).1 = _
        unfold cr
        omega
    have h1 := key r.length (Nat.le_refl _)
    rw [List.take_length] at h1
    show sumNx (p :: r) r.length + _ - _ = pth p (r ++ [p])
    rw [h1, pth_snoc]
    have h2 := lastP_take p r r.length (by simp)
    rw [List.take_length] at h2
    rw [h2]
    have : (r.length + 1) % (p :: r).length = 0 := by simp
    rw [this]
    show _ + ((p :: r).getD r.length (0, 0)).1 * p.2 - ((p :: r).getD r.length (0, 0)).2 * p.1 = _
    unfold cr
    omega
end DL
namespace DL
open PySem PySem.Spec PyProof.Rows L2
/-! signs -/
theorem sgI_of {a b c d : Int} (hc : 0 < c) (hd : 0 < d) (h : c * a = d * b) : sgI a = sgI b := by
  have h1 : 0 < a ↔ 0 < b := ⟨fun z => by
    have : 0 < d * b := by rw [← h]; exact Int.mul_pos hc z
    exact Int.pos_of_mul_pos_left (by rw [Int.mul_comm]; exact this) hd, fun z => by
    have : 0 < c * a := by rw [h]; exact Int.mul_pos hd z
    exact Int.pos_of_mul_pos_left (by rw [Int.mul_comm]; exact this) hc⟩
  have h2 : a < 0 ↔ b < 0 := by
    have h3 : a = 0 ↔ b = 0 := ⟨fun z => by
      rw [z, Int.mul_zero] at h
      rcases Int.mul_eq_zero.mp h.symm with q | q
      · omega
      · exact q, fun z => by
      rw [z, Int.mul_zero] at h
      rcases Int.mul_eq_zero.mp h with q | q
      · omega
      · exact q⟩
    omega
  unfold sgI
  rw [decide_eq_decide.mpr h1, decide_eq_decide.mpr h2]
theorem sgI_neg (a : Int) : sgI (-a) = 0 - sgI a := by
  unfold sgI
  by_cases h : 0 < a
  · rw [decide_eq_true h, decide_eq_false (show ¬ (0 < -a) by omega), decide_eq_true (show -a < 0 by omega), decide_eq_false (show ¬ a < 0 by omega)]
    rfl
  · by_cases h' : a < 0
    · rw [decide_eq_false h, decide_eq_true (show 0 < -a by omega), decide_eq_false (show ¬ -a < 0 by omega), decide_eq_true h']
      rfl
    · rw [decide_eq_false h, decide_eq_false (show ¬ 0 < -a by omega), decide_eq_false (show ¬ -a < 0 by omega), decide_eq_false h']
      rfl
/-- a point over a base -/
def tq (b : Int) (p : Int × Int) : Rat × Rat := (Rat.divInt p.1 b, Rat.divInt p.2 b)
theorem whole_mul {x b : Int} {M : Nat} (hb : 0 < b) (hd : (Rat.divInt x b).den ∣ M) : (Rat.divInt x b).num * (M : Int).fdiv ((Rat.divInt x b).den : Nat) * b = x * M := by
  have h := Rat.num_divInt_den (Rat.divInt x b)
  have hd0 : ((Rat.divInt x b).den : Int) ≠ 0 := Sz.d0 _
  have hc := (Rat.divInt_eq_divInt_iff hd0 (show b ≠ 0 by omega)).mp h
  obtain ⟨c, rfl⟩ := hd
  generalize (Rat.divInt x b).num = n at hc ⊢
  generalize hD : (Rat.divInt x b).den = D at hc hd0 ⊢
  have e : (((D * c : Nat)) : Int).fdiv (D : Nat) = (c : Int) := by
    rw [Int.natCast_mul]
    exact Int.mul_fdiv_cancel_left _ hd0
  rw [e, Int.natCast_mul]
  calc n * (c : Int) * b = (n * b) * c := by grind
    _ = x * (D : Int) * c := by rw [hc]
    _ = x * ((D : Int) * c) := by grind
theorem den_dvd {x b : Int} (hb : 0 < b) : (Rat.divInt x b).den ∣ b.natAbs := by
  have h := (rt_q (u := x) (l := b) (by omega)).2
  have h2 := rtd_mul x b
  rw [h] at h2
  refine ⟨(cpt x b).natAbs, ?_⟩
  have h3 := congrArg Int.natAbs h2
  rw [Int.natAbs_mul] at h3
  exact h3.symm
end DL

namespace L_k23
open PySem PySem.Spec PyProof.Rows L2 DL
def topS (i : Nat) : Stmt := PySem.Challenge.pw_hintedpoints_k23_polygons_of_points.main.body.getD i (.Pass ⟨0, 0, 0, 0⟩)
def ktab : List KRow := []
def kt : KTab := ktOf ktab
structure Tz (K : PySem.W.Frag) (mg : Str → Option Value) : Prop where
  kit : KitT K mg kt
  z_abs : mg "abs" = none
  z_all : mg "all" = none
  z_bool : mg "bool" = none
  z_enumerate : mg "enumerate" = none
  z_int : mg "int" = none
  z_isinstance : mg "isinstance" = none
  z_len : mg "len" = none
  z_list : mg "list" = none
  z_max : mg "max" = none
  z_min : mg "min" = none
  z_range : mg "range" = none
  z_repr : mg "repr" = none
  z_tuple : mg "tuple" = none
  z_zip : mg "zip" = none
  g_FURTHEST : ∃ t, mg "FURTHEST" = some (.int 99999 t)
  g_LEAST_POINTS : ∃ t, mg "LEAST_POINTS" = some (.int 3 t)
  g_MOST_CUTS : ∃ t, mg "MOST_CUTS" = some (.int 4 t)
  g_MOST_POINTS : ∃ t, mg "MOST_POINTS" = some (.int 12 t)
  g_MOST_ROUNDS : ∃ t, mg "MOST_ROUNDS" = some (.int 4 t)

/-! Outline_ends -/
abbrev s_Outline_ends : Stmt := inClass (topS 28) 9
theorem sc_Outline_ends : FnScope ["self", "found", "many", "points"] ["self"] (defScope s_Outline_ends) := ⟨rfl, rfl, rfl, by decide +kernel, rfl, by decide +kernel, by decide +kernel⟩
def b_Outline_ends : DS := (sSeq (sAsg (dLst true dNil) (gN 1)) (sSeq (sAsg (dC (.int 0)) (gN 2)) (sSeq (sFor (iSeq (dFld "Outline" "kept_rounds" (dVar 0))) (gN 3) (sSeq (sAug 2 fAddI (dB fLen (dCons (dVar 3) dNil))) (sExp (dBM "list" fAppend (dVar 1) (dCons (dOp fSub (dVar 2) (dC (.int 1))) dNil))))) (sRet (dVar 1)))))
def sp_Outline_ends : DSp := spOf 4 1 b_Outline_ends
theorem fn_Outline_ends {P : Program} {w : World} {K : PySem.W.Frag} {mg : Str → Option Value} {base : Heap} {f : Addr} {fd : FuncData} (T : Tz K mg) (D : MeAt K mg "Outline" "ends" "Outline.ends" s_Outline_ends f fd) (sm : ∃ o, base.get? sysModules = some o) (F_Outline_kept_rounds : ObF K mg "Outline" "kept_rounds") : FnG P w K mg base 1 f fd ["self"] sp_Outline_ends :=
  Fn_ok (k := 0) (b := b_Outline_ends) D.F sc_Outline_ends sm fun cdv A outer s H E G => (sd_cons (sd_set 1 G.nd (pd_lst true pa_nilD)) (sd_cons (sd_set 2 G.nd pd_int) (sd_cons (sd_for G (pi_seqD (pd_fld F_Outline_kept_rounds (pd_var 0))) (pg_nameD (i := 3) G.nd) (sd_cons (sd_augI 2 G.nd (pd_callB call_len sim_len T.z_len (pa_consD (pd_var 3) pa_nilD))) (sd_one (sd_exp (pd_append (pd_var 1) (pa_consD (pd_sub (pd_var 2) pd_int) pa_nilD)))))) (sd_one (sd_ret (pd_var 1))))))
theorem me_Outline_ends {P : Program} {w : World} {K : PySem.W.Frag} {mg : Str → Option Value} {base : Heap} {f : Addr} {fd : FuncData} (T : Tz K mg) (D : MeAt K mg "Outline" "ends" "Outline.ends" s_Outline_ends f fd) (sm : ∃ o, base.get? sysModules = some o) (F_Outline_kept_rounds : ObF K mg "Outline" "kept_rounds") : MeOk P w K mg base 1 "Outline" "ends" ["self"] sp_Outline_ends := me_mk D (fn_Outline_ends T D sm F_Outline_kept_rounds) (fun _ _ _ _ _ _ us hl => match us, hl with | [_], _ => rfl)
/-! Outline_points -/
abbrev s_Outline_points : Stmt := inClass (topS 28) 6
theorem sc_Outline_points : FnScope ["self", "points", "point"] ["self"] (defScope s_Outline_points) := ⟨rfl, rfl, rfl, by decide +kernel, rfl, by decide +kernel, by decide +kernel⟩
def b_Outline_points : DS := (sRet (dLcG false (iSeq (dFld "Outline" "kept_rounds" (dVar 0))) (.inl 1) tYesD (fun n => (cFor (iSeq (dVar 1)) (.inl 2) tYesD [2] (cElt n (dVar 2)))) [1, 2]))
def sp_Outline_points : DSp := spOf 3 1 b_Outline_points
theorem fn_Outline_points {P : Program} {w : World} {K : PySem.W.Frag} {mg : Str → Option Value} {base : Heap} {f : Addr} {fd : FuncData} (T : Tz K mg) (D : MeAt K mg "Outline" "points" "Outline.points" s_Outline_points f fd) (sm : ∃ o, base.get? sysModules = some o) (F_Outline_kept_rounds : ObF K mg "Outline" "kept_rounds") : FnG P w K mg base 1 f fd ["self"] sp_Outline_points :=
  Fn_ok (k := 0) (b := b_Outline_points) D.F sc_Outline_points sm fun cdv A outer s H E G => (sd_one (sd_ret (pd_lc2 false [("points", 1), ("point", 2)] (.inl 1) (.inl 2) [2] G (pi_seqD (pd_fld F_Outline_kept_rounds (pd_var 0))) (fun _ _ _ _ _ => (pg_name G.nd rfl (by first | exact Or.inl rfl | exact Or.inr rfl))) (fun _ _ _ _ _ => pts_nilD) (fun _ _ _ _ _ => (pi_seqD (pd_var 1))) (fun _ _ _ _ _ => (pg_name G.nd rfl (by first | exact Or.inl rfl | exact Or.inr rfl))) (fun _ _ _ _ _ => pts_nilD) (fun _ _ _ _ _ => (pd_var 2)))))
theorem me_Outline_points {P : Program} {w : World} {K : PySem.W.Frag} {mg : Str → Option Value} {base : Heap} {f : Addr} {fd : FuncData} (T : Tz K mg) (D : MeAt K mg "Outline" "points" "Outline.points" s_Outline_points f fd) (sm : ∃ o, base.get? sysModules = some o) (F_Outline_kept_rounds : ObF K mg "Outline" "kept_rounds") : MeOk P w K mg base 1 "Outline" "points" ["self"] sp_Outline_points := me_mk D (fn_Outline_points T D sm F_Outline_kept_rounds) (fun _ _ _ _ _ _ us hl => match us, hl with | [_], _ => rfl)
/-! Outline_truths -/
abbrev s_Outline_truths : Stmt := inClass (topS 28) 8
theorem sc_Outline_truths : FnScope ["self", "x", "y", "on"] ["self"] (defScope s_Outline_truths) := ⟨rfl, rfl, rfl, by decide +kernel, rfl, by decide +kernel, by decide +kernel⟩
def b_Outline_truths : DS := (sRet (dLc false (iSeq (dMet "points" [("Outline", sp_Outline_points)] (dVar 0) dNil)) (.inr [1, 2, 3]) tYesD (dVar 3) [1, 2, 3]))
def sp_Outline_truths : DSp := spOf 4 1 b_Outline_truths
theorem fn_Outline_truths {P : Program} {w : World} {K : PySem.W.Frag} {mg : Str → Option Value} {base : Heap} {f : Addr} {fd : FuncData} (T : Tz K mg) (D : MeAt K mg "Outline" "truths" "Outline.truths" s_Outline_truths f fd) (sm : ∃ o, base.get? sysModules = some o) (M_Outline_points : MeOk P w K mg base 1 "Outline" "points" ["self"] sp_Outline_points) : FnG P w K mg base 2 f fd ["self"] sp_Outline_truths :=
  Fn_ok (k := 1) (b := b_Outline_truths) D.F sc_Outline_truths sm fun cdv A outer s H E G => (sd_one (sd_ret (pd_lc false [("x", 1), ("y", 2), ("on", 3)] (.inr [1, 2, 3]) G (pi_seqD (pd_met0 G (okms_cons (M_Outline_points.mono (by decide)) okms_nil) (pd_var 0))) (fun _ _ _ _ _ => pg_tup G.calm (pgs_cons (pg_name G.nd rfl (by first | exact Or.inl rfl | exact Or.inr rfl)) (pgs_cons (pg_name G.nd rfl (by first | exact Or.inl rfl | exact Or.inr rfl)) (pgs_cons (pg_name G.nd rfl (by first | exact Or.inl rfl | exact Or.inr rfl)) pgs_nil)))) (fun _ _ _ _ _ => pts_nilD) (fun _ _ _ _ _ => (pd_var 3)))))
theorem me_Outline_truths {P : Program} {w : World} {K : PySem.W.Frag} {mg : Str → Option Value} {base : Heap} {f : Addr} {fd : FuncData} (T : Tz K mg) (D : MeAt K mg "Outline" "truths" "Outline.truths" s_Outline_truths f fd) (sm : ∃ o, base.get? sysModules = some o) (M_Outline_points : MeOk P w K mg base 1 "Outline" "points" ["self"] sp_Outline_points) : MeOk P w K mg base 2 "Outline" "truths" ["self"] sp_Outline_truths := me_mk D (fn_Outline_truths T D sm M_Outline_points) (fun _ _ _ _ _ _ us hl => match us, hl with | [_], _ => rfl)
/-! Outline_places -/
abbrev s_Outline_places : Stmt := inClass (topS 28) 7
theorem sc_Outline_places : FnScope ["self", "x", "y", "on"] ["self"] (defScope s_Outline_places) := ⟨rfl, rfl, rfl, by decide +kernel, rfl, by decide +kernel, by decide +kernel⟩
def b_Outline_places : DS := (sRet (dLc false (iSeq (dMet "points" [("Outline", sp_Outline_points)] (dVar 0) dNil)) (.inr [1, 2, 3]) tYesD (dTup (dCons (dVar 1) (dCons (dVar 2) dNil))) [1, 2, 3]))
def sp_Outline_places : DSp := spOf 4 1 b_Outline_places
theorem fn_Outline_places {P : Program} {w : World} {K : PySem.W.Frag} {mg : Str → Option Value} {base : Heap} {f : Addr} {fd : FuncData} (T : Tz K mg) (D : MeAt K mg "Outline" "places" "Outline.places" s_Outline_places f fd) (sm : ∃ o, base.get? sysModules = some o) (M_Outline_points : MeOk P w K mg base 1 "Outline" "points" ["self"] sp_Outline_points) : FnG P w K mg base 2 f fd ["self"] sp_Outline_places :=
  Fn_ok (k := 1) (b := b_Outline_places) D.F sc_Outline_places sm fun cdv A outer s H E G => (sd_one (sd_ret (pd_lc false [("x", 1), ("y", 2), ("on", 3)] (.inr [1, 2, 3]) G (pi_seqD (pd_met0 G (okms_cons (M_Outline_points.mono (by decide)) okms_nil) (pd_var 0))) (fun _ _ _ _ _ => pg_tup G.calm (pgs_cons (pg_name G.nd rfl (by first | exact Or.inl rfl | exact Or.inr rfl)) (pgs_cons (pg_name G.nd rfl (by first | exact Or.inl rfl | exact Or.inr rfl)) (pgs_cons (pg_name G.nd rfl (by first | exact Or.inl rfl | exact Or.inr rfl)) pgs_nil)))) (fun _ _ _ _ _ => pts_nilD) (fun _ _ _ _ _ => (pd_tup (pa_consD (pd_var 1) (pa_consD (pd_var 2) pa_nilD)))))))
theorem me_Outline_places {P : Program} {w : World} {K : PySem.W.Frag} {mg : Str → Option Value} {base : Heap} {f : Addr} {fd : FuncData} (T : Tz K mg) (D : MeAt K mg "Outline" "places" "Outline.places" s_Outline_places f fd) (sm : ∃ o, base.get? sysModules = some o) (M_Outline_points : MeOk P w K mg base 1 "Outline" "points" ["self"] sp_Outline_points) : MeOk P w K mg base 2 "Outline" "places" ["self"] sp_Outline_places := me_mk D (fn_Outline_places T D sm M_Outline_points) (fun _ _ _ _ _ _ us hl => match us, hl with | [_], _ => rfl)
/-! is_plain -/
abbrev s_is_plain : Stmt := topS 9
theorem sc_is_plain : FnScope ["thing"] ["thing"] (defScope s_is_plain) := ⟨rfl, rfl, rfl, by decide +kernel, rfl, by decide +kernel, by decide +kernel⟩
def b_is_plain : DS := (sRet (dAnd (dB (fIsi kt) (dCons (dVar 0) (dCons (dC (.ty "int")) dNil))) (dNot (dB (fIsi kt) (dCons (dVar 0) (dCons (dC (.ty "bool")) dNil))))))
def sp_is_plain : DSp := spOf 1 1 b_is_plain
theorem fn_is_plain {P : Program} {w : World} {K : PySem.W.Frag} {mg : Str → Option Value} {base : Heap} {f : Addr} {fd : FuncData} (T : Tz K mg) (D : DefAt K mg "is_plain" s_is_plain f fd) (sm : ∃ o, base.get? sysModules = some o)  : FnG P w K mg base 1 f fd ["thing"] sp_is_plain :=
  Fn_ok (k := 0) (b := b_is_plain) D.F sc_is_plain sm fun cdv A outer s H E G => (sd_one (sd_ret (pd_and (pd_callB (call_isiD T.kit) sim_isi T.z_isinstance (pa_consD (pd_var 0) (pa_consD (pd_tyName T.z_int) pa_nilD))) (pd_one (pd_not (pd_callB (call_isiD T.kit) sim_isi T.z_isinstance (pa_consD (pd_var 0) (pa_consD (pd_tyName T.z_bool) pa_nilD))))))))
theorem ok_is_plain {P : Program} {w : World} {K : PySem.W.Frag} {mg : Str → Option Value} {base : Heap} {f : Addr} {fd : FuncData} (T : Tz K mg) (D : DefAt K mg "is_plain" s_is_plain f fd) (sm : ∃ o, base.get? sysModules = some o)  : Ok P w K mg base 1 "is_plain" ["thing"] sp_is_plain := ok_mk D (fn_is_plain T D sm ) (fun _ _ _ _ _ _ us hl => match us, hl with | [_], _ => rfl)
/-! is_whole -/
abbrev s_is_whole : Stmt := topS 10
theorem sc_is_whole : FnScope ["thing", "low", "high"] ["thing", "low", "high"] (defScope s_is_whole) := ⟨rfl, rfl, rfl, by decide +kernel, rfl, by decide +kernel, by decide +kernel⟩
def b_is_whole : DS := (sRet (dAnd (dCall sp_is_plain [] (dCons (dVar 0) dNil)) (dChain fLeS fLeS (dVar 1) (dVar 0) (dVar 2))))
def sp_is_whole : DSp := spOf 3 3 b_is_whole
theorem fn_is_whole {P : Program} {w : World} {K : PySem.W.Frag} {mg : Str → Option Value} {base : Heap} {f : Addr} {fd : FuncData} (T : Tz K mg) (D : DefAt K mg "is_whole" s_is_whole f fd) (sm : ∃ o, base.get? sysModules = some o) (O_is_plain : Ok P w K mg base 1 "is_plain" ["thing"] sp_is_plain) : FnG P w K mg base 2 f fd ["thing", "low", "high"] sp_is_whole :=
  Fn_ok (k := 1) (b := b_is_whole) D.F sc_is_whole sm fun cdv A outer s H E G => (sd_one (sd_ret (pd_and (pd_callN G (O_is_plain.mono (by decide)) (pa_consD (pd_var 0) pa_nilD)) (pd_one (pd_chain op_leS sim_ord op_leS sim_ord (pd_var 1) (pd_var 0) (pd_var 2))))))
theorem ok_is_whole {P : Program} {w : World} {K : PySem.W.Frag} {mg : Str → Option Value} {base : Heap} {f : Addr} {fd : FuncData} (T : Tz K mg) (D : DefAt K mg "is_whole" s_is_whole f fd) (sm : ∃ o, base.get? sysModules = some o) (O_is_plain : Ok P w K mg base 1 "is_plain" ["thing"] sp_is_plain) : Ok P w K mg base 2 "is_whole" ["thing", "low", "high"] sp_is_whole := ok_mk D (fn_is_whole T D sm O_is_plain) (fun _ _ _ _ _ _ us hl => match us, hl with | [_, _, _], _ => rfl)
/-! common_part -/
abbrev s_common_part : Stmt := topS 11
theorem sc_common_part : FnScope ["one", "other"] ["one", "other"] (defScope s_common_part) := ⟨rfl, rfl, rfl, by decide +kernel, rfl, by decide +kernel, by decide +kernel⟩
def b_common_part : DS := (sSeq (sPar 0 1 (dCons (dB fAbs (dCons (dVar 0) dNil)) (dCons (dB fAbs (dCons (dVar 1) dNil)) dNil))) (sSeq (sWhile (tBl (dOp fNe (dVar 1) (dC (.int 0)))) (sPar 0 1 (dCons (dVar 1) (dCons (dOp fMod (dVar 0) (dVar 1)) dNil)))) (sRet (dVar 0))))
def sp_common_part : DSp := spOf 2 2 b_common_part
theorem fn_common_part {P : Program} {w : World} {K : PySem.W.Frag} {mg : Str → Option Value} {base : Heap} {f : Addr} {fd : FuncData} (T : Tz K mg) (D : DefAt K mg "common_part" s_common_part f fd) (sm : ∃ o, base.get? sysModules = some o)  : FnG P w K mg base 1 f fd ["one", "other"] sp_common_part :=
  Fn_ok (k := 0) (b := b_common_part) D.F sc_common_part sm fun cdv A outer s H E G => (sd_cons (sd_par 0 1 (fun _ h => ps_par G.calm G.nd rfl rfl (by decide) rfl rfl h (by rfl)) (pa_consD (pd_callB call_abs sim_abs T.z_abs (pa_consD (pd_var 0) pa_nilD)) (pa_consD (pd_callB call_abs sim_abs T.z_abs (pa_consD (pd_var 1) pa_nilD)) pa_nilD))) (sd_cons (sd_while G (pt_ne G (pd_var 1) pd_int) (sd_one (sd_par 0 1 (fun _ h => ps_par G.calm G.nd rfl rfl (by decide) rfl rfl h (by rfl)) (pa_consD (pd_var 1) (pa_consD (pd_mod (pd_var 0) (pd_var 1)) pa_nilD))))) (sd_one (sd_ret (pd_var 0)))))
theorem ok_common_part {P : Program} {w : World} {K : PySem.W.Frag} {mg : Str → Option Value} {base : Heap} {f : Addr} {fd : FuncData} (T : Tz K mg) (D : DefAt K mg "common_part" s_common_part f fd) (sm : ∃ o, base.get? sysModules = some o)  : Ok P w K mg base 1 "common_part" ["one", "other"] sp_common_part := ok_mk D (fn_common_part T D sm ) (fun _ _ _ _ _ _ us hl => match us, hl with | [_, _], _ => rfl)
/-! is_part -/
abbrev s_is_part : Stmt := topS 12
theorem sc_is_part : FnScope ["thing", "top", "base"] ["thing"] (defScope s_is_part) := ⟨rfl, rfl, rfl, by decide +kernel, rfl, by decide +kernel, by decide +kernel⟩
def b_is_part : DS := (sSeq (sIf (tOrD (tNotD (tTru (dB (fIsi kt) (dCons (dVar 0) (dCons (dC (.ty "tuple")) dNil))))) (tBl (dOp fNe (dB fLen (dCons (dVar 0) dNil)) (dC (.int 2))))) (sRet (dC (.bl false))) sNil) (sSeq (sAsg (dVar 0) (gTupD 2 (gConsD (gN 1) (gConsD (gN 2) gNilD)))) (sRet (dAnd (dCall sp_is_plain [] (dCons (dVar 1) dNil)) (dAnd (dCall sp_is_plain [] (dCons (dVar 2) dNil)) (dAnd (dOp fGtS (dVar 2) (dC (.int 1))) (dOp fEq (dCall sp_common_part [] (dCons (dVar 1) (dCons (dVar 2) dNil))) (dC (.int 1)))))))))
def sp_is_part : DSp := spOf 3 1 b_is_part
theorem fn_is_part {P : Program} {w : World} {K : PySem.W.Frag} {mg : Str → Option Value} {base : Heap} {f : Addr} {fd : FuncData} (T : Tz K mg) (D : DefAt K mg "is_part" s_is_part f fd) (sm : ∃ o, base.get? sysModules = some o) (O_common_part : Ok P w K mg base 1 "common_part" ["one", "other"] sp_common_part) (O_is_plain : Ok P w K mg base 1 "is_plain" ["thing"] sp_is_plain) : FnG P w K mg base 2 f fd ["thing"] sp_is_part :=
  Fn_ok (k := 1) (b := b_is_part) D.F sc_is_part sm fun cdv A outer s H E G => (sd_cons (sd_if (PW.pt (pw_orD (pt_notD (pt_truD (pd_callB (call_isiD T.kit) sim_isi T.z_isinstance (pa_consD (pd_var 0) (pa_consD (pd_tyName T.z_tuple) pa_nilD))))) (pw_or1D (pt_ne G (pd_callB call_len sim_len T.z_len (pa_consD (pd_var 0) pa_nilD)) pd_int)))) (sd_one (sd_ret pd_bl)) sd_nil) (sd_cons (sd_asg (pd_var 0) (pg_tupD G.calm (pgs_consD (pg_nameD (i := 1) G.nd) (pgs_consD (pg_nameD (i := 2) G.nd) pgs_nilD)))) (sd_one (sd_ret (pd_and (pd_callN G (O_is_plain.mono (by decide)) (pa_consD (pd_var 1) pa_nilD)) (pd_and (pd_callN G (O_is_plain.mono (by decide)) (pa_consD (pd_var 2) pa_nilD)) (pd_and (pd_gt (pd_var 2) pd_int) (pd_one (pd_eq G (pd_callN G (O_common_part.mono (by decide)) (pa_consD (pd_var 1) (pa_consD (pd_var 2) pa_nilD))) pd_int)))))))))
theorem ok_is_part {P : Program} {w : World} {K : PySem.W.Frag} {mg : Str → Option Value} {base : Heap} {f : Addr} {fd : FuncData} (T : Tz K mg) (D : DefAt K mg "is_part" s_is_part f fd) (sm : ∃ o, base.get? sysModules = some o) (O_common_part : Ok P w K mg base 1 "common_part" ["one", "other"] sp_common_part) (O_is_plain : Ok P w K mg base 1 "is_plain" ["thing"] sp_is_plain) : Ok P w K mg base 2 "is_part" ["thing"] sp_is_part := ok_mk D (fn_is_part T D sm O_common_part O_is_plain) (fun _ _ _ _ _ _ us hl => match us, hl with | [_], _ => rfl)
/-! reckoned -/
abbrev s_reckoned : Stmt := topS 13
theorem sc_reckoned : FnScope ["top", "base", "part"] ["top", "base"] (defScope s_reckoned) := ⟨rfl, rfl, rfl, by decide +kernel, rfl, by decide +kernel, by decide +kernel⟩
def b_reckoned : DS := (sSeq (sAsg (dCall sp_common_part [] (dCons (dVar 0) (dCons (dVar 1) dNil))) (gN 2)) (sSeq (sIf (tBl (dOp fLtS (dVar 1) (dC (.int 0)))) (sAsg (dOp fSub (dC (.int 0)) (dVar 2)) (gN 2)) sNil) (sSeq (sPar 0 1 (dCons (dOp fDiv (dVar 0) (dVar 2)) (dCons (dOp fDiv (dVar 1) (dVar 2)) dNil))) (sRet (dIf (tBl (dOp fEq (dVar 1) (dC (.int 1)))) (dVar 0) (dTup (dCons (dVar 0) (dCons (dVar 1) dNil))))))))
def sp_reckoned : DSp := spOf 3 2 b_reckoned
theorem fn_reckoned {P : Program} {w : World} {K : PySem.W.Frag} {mg : Str → Option Value} {base : Heap} {f : Addr} {fd : FuncData} (T : Tz K mg) (D : DefAt K mg "reckoned" s_reckoned f fd) (sm : ∃ o, base.get? sysModules = some o) (O_common_part : Ok P w K mg base 1 "common_part" ["one", "other"] sp_common_part) : FnG P w K mg base 2 f fd ["top", "base"] sp_reckoned :=
  Fn_ok (k := 1) (b := b_reckoned) D.F sc_reckoned sm fun cdv A outer s H E G => (sd_cons (sd_set 2 G.nd (pd_callN G (O_common_part.mono (by decide)) (pa_consD (pd_var 0) (pa_consD (pd_var 1) pa_nilD)))) (sd_cons (sd_if (pt_lt (pd_var 1) pd_int) (sd_one (sd_set 2 G.nd (pd_sub pd_int (pd_var 2)))) sd_nil) (sd_cons (sd_par 0 1 (fun _ h => ps_par G.calm G.nd rfl rfl (by decide) rfl rfl h (by rfl)) (pa_consD (pd_fdiv (pd_var 0) (pd_var 2)) (pa_consD (pd_fdiv (pd_var 1) (pd_var 2)) pa_nilD))) (sd_one (sd_ret (pd_if (pt_eq G (pd_var 1) pd_int) (pd_var 0) (pd_tup (pa_consD (pd_var 0) (pa_consD (pd_var 1) pa_nilD)))))))))
theorem ok_reckoned {P : Program} {w : World} {K : PySem.W.Frag} {mg : Str → Option Value} {base : Heap} {f : Addr} {fd : FuncData} (T : Tz K mg) (D : DefAt K mg "reckoned" s_reckoned f fd) (sm : ∃ o, base.get? sysModules = some o) (O_common_part : Ok P w K mg base 1 "common_part" ["one", "other"] sp_common_part) : Ok P w K mg base 2 "reckoned" ["top", "base"] sp_reckoned := ok_mk D (fn_reckoned T D sm O_common_part) (fun _ _ _ _ _ _ us hl => match us, hl with | [_, _], _ => rfl)
/-! fraction -/
abbrev s_fraction : Stmt := topS 14
theorem sc_fraction : FnScope ["top", "base", "thing"] ["top", "base"] (defScope s_fraction) := ⟨rfl, rfl, rfl, by decide +kernel, rfl, by decide +kernel, by decide +kernel⟩
def b_fraction : DS := (sSeq (sFor (iSeq (dTup (dCons (dVar 0) (dCons (dVar 1) dNil)))) (gN 2) (sIf (tNotD (tTru (dCall sp_is_plain [] (dCons (dVar 2) dNil)))) (sRz "NoNumber" ["found"] (dCons (dVar 2) dNil)) sNil)) (sSeq (sIf (tBl (dOp fEq (dVar 1) (dC (.int 0)))) sNever sNil) (sRet (dCall sp_reckoned [] (dCons (dVar 0) (dCons (dVar 1) dNil))))))
def sp_fraction : DSp := spOf 3 2 b_fraction
theorem fn_fraction {P : Program} {w : World} {K : PySem.W.Frag} {mg : Str → Option Value} {base : Heap} {f : Addr} {fd : FuncData} (T : Tz K mg) (D : DefAt K mg "fraction" s_fraction f fd) (sm : ∃ o, base.get? sysModules = some o) (E_NoNumber : ExOk P w K mg base "NoNumber" ["found"]) (O_is_plain : Ok P w K mg base 1 "is_plain" ["thing"] sp_is_plain) (O_reckoned : Ok P w K mg base 2 "reckoned" ["top", "base"] sp_reckoned) : FnG P w K mg base 3 f fd ["top", "base"] sp_fraction :=
  Fn_ok (k := 2) (b := b_fraction) D.F sc_fraction sm fun cdv A outer s H E G => (sd_cons (sd_for G (pi_seqD (pd_tup (pa_consD (pd_var 0) (pa_consD (pd_var 1) pa_nilD)))) (pg_nameD (i := 2) G.nd) (sd_one (sd_if (pt_notD (pt_truD (pd_callN G (O_is_plain.mono (by decide)) (pa_consD (pd_var 2) pa_nilD)))) (sd_one (sd_raise (G.mono (j := 2) (by decide)) E_NoNumber (by simp) (pa_consD (pd_var 2) pa_nilD))) sd_nil))) (sd_cons (sd_if (pt_eq G (pd_var 1) pd_int) (sd_one sd_never) sd_nil) (sd_one (sd_ret (pd_callN G (O_reckoned.mono (by decide)) (pa_consD (pd_var 0) (pa_consD (pd_var 1) pa_nilD)))))))
theorem ok_fraction {P : Program} {w : World} {K : PySem.W.Frag} {mg : Str → Option Value} {base : Heap} {f : Addr} {fd : FuncData} (T : Tz K mg) (D : DefAt K mg "fraction" s_fraction f fd) (sm : ∃ o, base.get? sysModules = some o) (E_NoNumber : ExOk P w K mg base "NoNumber" ["found"]) (O_is_plain : Ok P w K mg base 1 "is_plain" ["thing"] sp_is_plain) (O_reckoned : Ok P w K mg base 2 "reckoned" ["top", "base"] sp_reckoned) : Ok P w K mg base 3 "fraction" ["top", "base"] sp_fraction := ok_mk D (fn_fraction T D sm E_NoNumber O_is_plain O_reckoned) (fun _ _ _ _ _ _ us hl => match us, hl with | [_, _], _ => rfl)
/-! pair_of -/
abbrev s_pair_of : Stmt := topS 15
theorem sc_pair_of : FnScope ["number"] ["number"] (defScope s_pair_of) := ⟨rfl, rfl, rfl, by decide +kernel, rfl, by decide +kernel, by decide +kernel⟩
def b_pair_of : DS := (sSeq (sIf (tTru (dCall sp_is_plain [] (dCons (dVar 0) dNil))) (sRet (dTup (dCons (dVar 0) (dCons (dC (.int 1)) dNil)))) sNil) (sSeq (sIf (tNotD (tTru (dCall sp_is_part [] (dCons (dVar 0) dNil)))) (sRz "NoNumber" ["found"] (dCons (dVar 0) dNil)) sNil) (sRet (dVar 0))))
def sp_pair_of : DSp := spOf 1 1 b_pair_of
theorem fn_pair_of {P : Program} {w : World} {K : PySem.W.Frag} {mg : Str → Option Value} {base : Heap} {f : Addr} {fd : FuncData} (T : Tz K mg) (D : DefAt K mg "pair_of" s_pair_of f fd) (sm : ∃ o, base.get? sysModules = some o) (E_NoNumber : ExOk P w K mg base "NoNumber" ["found"]) (O_is_part : Ok P w K mg base 2 "is_part" ["thing"] sp_is_part) (O_is_plain : Ok P w K mg base 1 "is_plain" ["thing"] sp_is_plain) : FnG P w K mg base 3 f fd ["number"] sp_pair_of :=
  Fn_ok (k := 2) (b := b_pair_of) D.F sc_pair_of sm fun cdv A outer s H E G => (sd_cons (sd_if (pt_truD (pd_callN G (O_is_plain.mono (by decide)) (pa_consD (pd_var 0) pa_nilD))) (sd_one (sd_ret (pd_tup (pa_consD (pd_var 0) (pa_consD pd_int pa_nilD))))) sd_nil) (sd_cons (sd_if (pt_notD (pt_truD (pd_callN G (O_is_part.mono (by decide)) (pa_consD (pd_var 0) pa_nilD)))) (sd_one (sd_raise (G.mono (j := 2) (by decide)) E_NoNumber (by simp) (pa_consD (pd_var 0) pa_nilD))) sd_nil) (sd_one (sd_ret (pd_var 0)))))
theorem ok_pair_of {P : Program} {w : World} {K : PySem.W.Frag} {mg : Str → Option Value} {base : Heap} {f : Addr} {fd : FuncData} (T : Tz K mg) (D : DefAt K mg "pair_of" s_pair_of f fd) (sm : ∃ o, base.get? sysModules = some o) (E_NoNumber : ExOk P w K mg base "NoNumber" ["found"]) (O_is_part : Ok P w K mg base 2 "is_part" ["thing"] sp_is_part) (O_is_plain : Ok P w K mg base 1 "is_plain" ["thing"] sp_is_plain) : Ok P w K mg base 3 "pair_of" ["number"] sp_pair_of := ok_mk D (fn_pair_of T D sm E_NoNumber O_is_part O_is_plain) (fun _ _ _ _ _ _ us hl => match us, hl with | [_], _ => rfl)
/-! plus -/
abbrev s_plus : Stmt := topS 16
theorem sc_plus : FnScope ["one", "other", "top", "base", "more", "under"] ["one", "other"] (defScope s_plus) := ⟨rfl, rfl, rfl, by decide +kernel, rfl, by decide +kernel, by decide +kernel⟩
def b_plus : DS := (sSeq (sAsg (dTup (dCons (dCall sp_pair_of [] (dCons (dVar 0) dNil)) (dCons (dCall sp_pair_of [] (dCons (dVar 1) dNil)) dNil))) (gTupD 2 (gConsD (gTupD 2 (gConsD (gN 2) (gConsD (gN 3) gNilD))) (gConsD (gTupD 2 (gConsD (gN 4) (gConsD (gN 5) gNilD))) gNilD)))) (sRet (dCall sp_reckoned [] (dCons (dOp (fAdd false) (dOp fMulI (dVar 2) (dVar 5)) (dOp fMulI (dVar 4) (dVar 3))) (dCons (dOp fMulI (dVar 3) (dVar 5)) dNil)))))
def sp_plus : DSp := spOf 6 2 b_plus
theorem fn_plus {P : Program} {w : World} {K : PySem.W.Frag} {mg : Str → Option Value} {base : Heap} {f : Addr} {fd : FuncData} (T : Tz K mg) (D : DefAt K mg "plus" s_plus f fd) (sm : ∃ o, base.get? sysModules = some o) (O_pair_of : Ok P w K mg base 3 "pair_of" ["number"] sp_pair_of) (O_reckoned : Ok P w K mg base 2 "reckoned" ["top", "base"] sp_reckoned) : FnG P w K mg base 4 f fd ["one", "other"] sp_plus :=
  Fn_ok (k := 3) (b := b_plus) D.F sc_plus sm fun cdv A outer s H E G => (sd_cons (sd_asg (pd_tup (pa_consD (pd_callN G (O_pair_of.mono (by decide)) (pa_consD (pd_var 0) pa_nilD)) (pa_consD (pd_callN G (O_pair_of.mono (by decide)) (pa_consD (pd_var 1) pa_nilD)) pa_nilD))) (pg_tupD G.calm (pgs_consD (pg_tupD G.calm (pgs_consD (pg_nameD (i := 2) G.nd) (pgs_consD (pg_nameD (i := 3) G.nd) pgs_nilD))) (pgs_consD (pg_tupD G.calm (pgs_consD (pg_nameD (i := 4) G.nd) (pgs_consD (pg_nameD (i := 5) G.nd) pgs_nilD))) pgs_nilD)))) (sd_one (sd_ret (pd_callN G (O_reckoned.mono (by decide)) (pa_consD (pd_add false (pd_mulI (pd_var 2) (pd_var 5)) (pd_mulI (pd_var 4) (pd_var 3))) (pa_consD (pd_mulI (pd_var 3) (pd_var 5)) pa_nilD))))))
theorem ok_plus {P : Program} {w : World} {K : PySem.W.Frag} {mg : Str → Option Value} {base : Heap} {f : Addr} {fd : FuncData} (T : Tz K mg) (D : DefAt K mg "plus" s_plus f fd) (sm : ∃ o, base.get? sysModules = some o) (O_pair_of : Ok P w K mg base 3 "pair_of" ["number"] sp_pair_of) (O_reckoned : Ok P w K mg base 2 "reckoned" ["top", "base"] sp_reckoned) : Ok P w K mg base 4 "plus" ["one", "other"] sp_plus := ok_mk D (fn_plus T D sm O_pair_of O_reckoned) (fun _ _ _ _ _ _ us hl => match us, hl with | [_, _], _ => rfl)
/-! times -/
abbrev s_times : Stmt := topS 17
theorem sc_times : FnScope ["one", "other", "top", "base", "more", "under"] ["one", "other"] (defScope s_times) := ⟨rfl, rfl, rfl, by decide +kernel, rfl, by decide +kernel, by decide +kernel⟩
def b_times : DS := (sSeq (sAsg (dTup (dCons (dCall sp_pair_of [] (dCons (dVar 0) dNil)) (dCons (dCall sp_pair_of [] (dCons (dVar 1) dNil)) dNil))) (gTupD 2 (gConsD (gTupD 2 (gConsD (gN 2) (gConsD (gN 3) gNilD))) (gConsD (gTupD 2 (gConsD (gN 4) (gConsD (gN 5) gNilD))) gNilD)))) (sRet (dCall sp_reckoned [] (dCons (dOp fMulI (dVar 2) (dVar 4)) (dCons (dOp fMulI (dVar 3) (dVar 5)) dNil)))))
def sp_times : DSp := spOf 6 2 b_times
theorem fn_times {P : Program} {w : World} {K : PySem.W.Frag} {mg : Str → Option Value} {base : Heap} {f : Addr} {fd : FuncData} (T : Tz K mg) (D : DefAt K mg "times" s_times f fd) (sm : ∃ o, base.get? sysModules = some o) (O_pair_of : Ok P w K mg base 3 "pair_of" ["number"] sp_pair_of) (O_reckoned : Ok P w K mg base 2 "reckoned" ["top", "base"] sp_reckoned) : FnG P w K mg base 4 f fd ["one", "other"] sp_times :=
  Fn_ok (k := 3) (b := b_times) D.F sc_times sm fun cdv A outer s H E G => (sd_cons (sd_asg (pd_tup (pa_consD (pd_callN G (O_pair_of.mono (by decide)) (pa_consD (pd_var 0) pa_nilD)) (pa_consD (pd_callN G (O_pair_of.mono (by decide)) (pa_consD (pd_var 1) pa_nilD)) pa_nilD))) (pg_tupD G.calm (pgs_consD (pg_tupD G.calm (pgs_consD (pg_nameD (i := 2) G.nd) (pgs_consD (pg_nameD (i := 3) G.nd) pgs_nilD))) (pgs_consD (pg_tupD G.calm (pgs_consD (pg_nameD (i := 4) G.nd) (pgs_consD (pg_nameD (i := 5) G.nd) pgs_nilD))) pgs_nilD)))) (sd_one (sd_ret (pd_callN G (O_reckoned.mono (by decide)) (pa_consD (pd_mulI (pd_var 2) (pd_var 4)) (pa_consD (pd_mulI (pd_var 3) (pd_var 5)) pa_nilD))))))
theorem ok_times {P : Program} {w : World} {K : PySem.W.Frag} {mg : Str → Option Value} {base : Heap} {f : Addr} {fd : FuncData} (T : Tz K mg) (D : DefAt K mg "times" s_times f fd) (sm : ∃ o, base.get? sysModules = some o) (O_pair_of : Ok P w K mg base 3 "pair_of" ["number"] sp_pair_of) (O_reckoned : Ok P w K mg base 2 "reckoned" ["top", "base"] sp_reckoned) : Ok P w K mg base 4 "times" ["one", "other"] sp_times := ok_mk D (fn_times T D sm O_pair_of O_reckoned) (fun _ _ _ _ _ _ us hl => match us, hl with | [_, _], _ => rfl)
/-! is_list -/
abbrev s_is_list : Stmt := topS 24
theorem sc_is_list : FnScope ["thing", "low", "high"] ["thing", "low", "high"] (defScope s_is_list) := ⟨rfl, rfl, rfl, by decide +kernel, rfl, by decide +kernel, by decide +kernel⟩
def b_is_list : DS := (sRet (dAnd (dB (fIsi kt) (dCons (dVar 0) (dCons (dTup (dCons (dC (.ty "list")) (dCons (dC (.ty "tuple")) dNil))) dNil))) (dChain fLeS fLeS (dVar 1) (dB fLen (dCons (dVar 0) dNil)) (dVar 2))))
def sp_is_list : DSp := spOf 3 3 b_is_list
theorem fn_is_list {P : Program} {w : World} {K : PySem.W.Frag} {mg : Str → Option Value} {base : Heap} {f : Addr} {fd : FuncData} (T : Tz K mg) (D : DefAt K mg "is_list" s_is_list f fd) (sm : ∃ o, base.get? sysModules = some o)  : FnG P w K mg base 1 f fd ["thing", "low", "high"] sp_is_list :=
  Fn_ok (k := 0) (b := b_is_list) D.F sc_is_list sm fun cdv A outer s H E G => (sd_one (sd_ret (pd_and (pd_callB (call_isiD T.kit) sim_isi T.z_isinstance (pa_consD (pd_var 0) (pa_consD (pd_tup (pa_consD (pd_tyName T.z_list) (pa_consD (pd_tyName T.z_tuple) pa_nilD))) pa_nilD))) (pd_one (pd_chain op_leS sim_ord op_leS sim_ord (pd_var 1) (pd_callB call_len sim_len T.z_len (pa_consD (pd_var 0) pa_nilD)) (pd_var 2))))))
theorem ok_is_list {P : Program} {w : World} {K : PySem.W.Frag} {mg : Str → Option Value} {base : Heap} {f : Addr} {fd : FuncData} (T : Tz K mg) (D : DefAt K mg "is_list" s_is_list f fd) (sm : ∃ o, base.get? sysModules = some o)  : Ok P w K mg base 1 "is_list" ["thing", "low", "high"] sp_is_list := ok_mk D (fn_is_list T D sm ) (fun _ _ _ _ _ _ us hl => match us, hl with | [_, _, _], _ => rfl)
/-! is_point -/
abbrev s_is_point : Stmt := topS 25
theorem sc_is_point : FnScope ["thing", "one"] ["thing"] (defScope s_is_point) := ⟨rfl, rfl, rfl, by decide +kernel, rfl, by decide +kernel, by decide +kernel⟩
def b_is_point : DS := (sSeq (sIf (tOrD (tNotD (tTru (dB (fIsi kt) (dCons (dVar 0) (dCons (dC (.ty "tuple")) dNil))))) (tOrD (tBl (dOp fNe (dB fLen (dCons (dVar 0) dNil)) (dC (.int 3)))) (tNotD (tTru (dB (fIsi kt) (dCons (dOp fIx (dVar 0) (dC (.int 2))) (dCons (dC (.ty "bool")) dNil))))))) (sRet (dC (.bl false))) sNil) (sRet (dB fAllB (dCons (dLc false (iSeq (dSlT (dVar 0) dNo (dPart (dC (.int 2))))) (.inl 1) tYesD (dCall sp_is_whole [] (dCons (dVar 1) (dCons (dUn fNeg (dC (.int 99999))) (dCons (dC (.int 99999)) dNil)))) [1]) dNil))))
def sp_is_point : DSp := spOf 2 1 b_is_point
theorem fn_is_point {P : Program} {w : World} {K : PySem.W.Frag} {mg : Str → Option Value} {base : Heap} {f : Addr} {fd : FuncData} (T : Tz K mg) (D : DefAt K mg "is_point" s_is_point f fd) (sm : ∃ o, base.get? sysModules = some o) (O_is_whole : Ok P w K mg base 2 "is_whole" ["thing", "low", "high"] sp_is_whole) : FnG P w K mg base 3 f fd ["thing"] sp_is_point :=
  Fn_ok (k := 2) (b := b_is_point) D.F sc_is_point sm fun cdv A outer s H E G => (sd_cons (sd_if (PW.pt (pw_orD (pt_notD (pt_truD (pd_callB (call_isiD T.kit) sim_isi T.z_isinstance (pa_consD (pd_var 0) (pa_consD (pd_tyName T.z_tuple) pa_nilD))))) (pw_orD (pt_ne G (pd_callB call_len sim_len T.z_len (pa_consD (pd_var 0) pa_nilD)) pd_int) (pw_or1D (pt_notD (pt_truD (pd_callB (call_isiD T.kit) sim_isi T.z_isinstance (pa_consD (pd_ix (pd_var 0) pd_int) (pa_consD (pd_tyName T.z_bool) pa_nilD))))))))) (sd_one (sd_ret pd_bl)) sd_nil) (sd_one (sd_ret (pd_callB (cr_all G.calm) sim_all T.z_all (pa_consD (pd_lc false [("one", 1)] (.inl 1) G (pi_seqD (pd_slT (pd_var 0) po_noD (po_partD pd_int))) (fun _ _ _ _ _ => pg_name G.nd rfl (by first | exact Or.inl rfl | exact Or.inr rfl)) (fun _ _ _ _ _ => pts_nilD) (fun _ _ _ _ _ => (pd_callN G.blk (O_is_whole.mono (by decide)) (pa_consD (pd_var 1) (pa_consD (pd_neg (pd_glbInt T.g_FURTHEST)) (pa_consD (pd_glbInt T.g_FURTHEST) pa_nilD)))))) pa_nilD)))))
theorem ok_is_point {P : Program} {w : World} {K : PySem.W.Frag} {mg : Str → Option Value} {base : Heap} {f : Addr} {fd : FuncData} (T : Tz K mg) (D : DefAt K mg "is_point" s_is_point f fd) (sm : ∃ o, base.get? sysModules = some o) (O_is_whole : Ok P w K mg base 2 "is_whole" ["thing", "low", "high"] sp_is_whole) : Ok P w K mg base 3 "is_point" ["thing"] sp_is_point := ok_mk D (fn_is_point T D sm O_is_whole) (fun _ _ _ _ _ _ us hl => match us, hl with | [_], _ => rfl)
/-! need_points -/
abbrev s_need_points : Stmt := topS 26
theorem sc_need_points : FnScope ["points", "point"] ["points"] (defScope s_need_points) := ⟨rfl, rfl, rfl, by decide +kernel, rfl, by decide +kernel, by decide +kernel⟩
def b_need_points : DS := (sSeq (sIf (tNotD (tTru (dCall sp_is_list [] (dCons (dVar 0) (dCons (dC (.int 3)) (dCons (dC (.int 12)) dNil)))))) (sRz "NoOutline" ["found"] (dCons (dVar 0) dNil)) sNil) (sFor (iSeq (dVar 0)) (gN 1) (sIf (tNotD (tTru (dCall sp_is_point [] (dCons (dVar 1) dNil)))) (sRz "NoPoint" ["found"] (dCons (dVar 1) dNil)) sNil)))
def sp_need_points : DSp := spOf 2 1 b_need_points
theorem fn_need_points {P : Program} {w : World} {K : PySem.W.Frag} {mg : Str → Option Value} {base : Heap} {f : Addr} {fd : FuncData} (T : Tz K mg) (D : DefAt K mg "need_points" s_need_points f fd) (sm : ∃ o, base.get? sysModules = some o) (E_NoOutline : ExOk P w K mg base "NoOutline" ["found"]) (E_NoPoint : ExOk P w K mg base "NoPoint" ["found"]) (O_is_list : Ok P w K mg base 1 "is_list" ["thing", "low", "high"] sp_is_list) (O_is_point : Ok P w K mg base 3 "is_point" ["thing"] sp_is_point) : FnG P w K mg base 4 f fd ["points"] sp_need_points :=
  Fn_ok (k := 3) (b := b_need_points) D.F sc_need_points sm fun cdv A outer s H E G => (sd_cons (sd_if (pt_notD (pt_truD (pd_callN G (O_is_list.mono (by decide)) (pa_consD (pd_var 0) (pa_consD (pd_glbInt T.g_LEAST_POINTS) (pa_consD (pd_glbInt T.g_MOST_POINTS) pa_nilD)))))) (sd_one (sd_raise (G.mono (j := 2) (by decide)) E_NoOutline (by simp) (pa_consD (pd_var 0) pa_nilD))) sd_nil) (sd_one (sd_for G (pi_seqD (pd_var 0)) (pg_nameD (i := 1) G.nd) (sd_one (sd_if (pt_notD (pt_truD (pd_callN G (O_is_point.mono (by decide)) (pa_consD (pd_var 1) pa_nilD)))) (sd_one (sd_raise (G.mono (j := 2) (by decide)) E_NoPoint (by simp) (pa_consD (pd_var 1) pa_nilD))) sd_nil)))))
theorem ok_need_points {P : Program} {w : World} {K : PySem.W.Frag} {mg : Str → Option Value} {base : Heap} {f : Addr} {fd : FuncData} (T : Tz K mg) (D : DefAt K mg "need_points" s_need_points f fd) (sm : ∃ o, base.get? sysModules = some o) (E_NoOutline : ExOk P w K mg base "NoOutline" ["found"]) (E_NoPoint : ExOk P w K mg base "NoPoint" ["found"]) (O_is_list : Ok P w K mg base 1 "is_list" ["thing", "low", "high"] sp_is_list) (O_is_point : Ok P w K mg base 3 "is_point" ["thing"] sp_is_point) : Ok P w K mg base 4 "need_points" ["points"] sp_need_points := ok_mk D (fn_need_points T D sm E_NoOutline E_NoPoint O_is_list O_is_point) (fun _ _ _ _ _ _ us hl => match us, hl with | [_], _ => rfl)
/-! Outline_init -/
abbrev s_Outline_init : Stmt := inClass (topS 28) 0
theorem sc_Outline_init : FnScope ["self", "rounds", "points"] ["self", "rounds"] (defScope s_Outline_init) := ⟨rfl, rfl, rfl, by decide +kernel, rfl, by decide +kernel, by decide +kernel⟩
def b_Outline_init : DS := (sSeq (sIf (tNotD (tTru (dCall sp_is_list [] (dCons (dVar 1) (dCons (dC (.int 1)) (dCons (dC (.int 4)) dNil)))))) (sRz "NoOutline" ["found"] (dCons (dVar 1) dNil)) sNil) (sSeq (sFor (iSeq (dVar 1)) (gN 2) (sExp (dCall sp_need_points [] (dCons (dVar 2) dNil)))) (sFldD "Outline" "kept_rounds" (dTupOf (dLc false (iSeq (dVar 1)) (.inl 2) tYesD (dTupOf (dVar 2)) [2])) (dVar 0))))
def sp_Outline_init : DSp := spOf 3 2 b_Outline_init
theorem fn_Outline_init {P : Program} {w : World} {K : PySem.W.Frag} {mg : Str → Option Value} {base : Heap} {f : Addr} {fd : FuncData} (T : Tz K mg) (D : MkAt K mg "Outline" "__init__" "Outline.__init__" s_Outline_init f fd) (sm : ∃ o, base.get? sysModules = some o) (E_NoOutline : ExOk P w K mg base "NoOutline" ["found"]) (F_Outline_kept_rounds : ObF K mg "Outline" "kept_rounds") (O_is_list : Ok P w K mg base 1 "is_list" ["thing", "low", "high"] sp_is_list) (O_need_points : Ok P w K mg base 4 "need_points" ["points"] sp_need_points) : FnG P w K mg base 5 f fd ["self", "rounds"] sp_Outline_init :=
  Fn_ok (k := 4) (b := b_Outline_init) D.F sc_Outline_init sm fun cdv A outer s H E G => (sd_cons (sd_if (pt_notD (pt_truD (pd_callN G (O_is_list.mono (by decide)) (pa_consD (pd_var 1) (pa_consD pd_int (pa_consD (pd_glbInt T.g_MOST_ROUNDS) pa_nilD)))))) (sd_one (sd_raise (G.mono (j := 2) (by decide)) E_NoOutline (by simp) (pa_consD (pd_var 1) pa_nilD))) sd_nil) (sd_cons (sd_for G (pi_seqD (pd_var 1)) (pg_nameD (i := 2) G.nd) (sd_one (sd_exp (pd_callN G (O_need_points.mono (by decide)) (pa_consD (pd_var 2) pa_nilD))))) (sd_one (sd_fld F_Outline_kept_rounds (pd_tupOf T.z_tuple (pd_lc false [("points", 2)] (.inl 2) G (pi_seqD (pd_var 1)) (fun _ _ _ _ _ => pg_name G.nd rfl (by first | exact Or.inl rfl | exact Or.inr rfl)) (fun _ _ _ _ _ => pts_nilD) (fun _ _ _ _ _ => (pd_tupOf T.z_tuple (pd_var 2))))) (pd_var 0)))))
theorem mk_Outline_init {P : Program} {w : World} {K : PySem.W.Frag} {mg : Str → Option Value} {base : Heap} {f : Addr} {fd : FuncData} (T : Tz K mg) (D : MkAt K mg "Outline" "__init__" "Outline.__init__" s_Outline_init f fd) (sm : ∃ o, base.get? sysModules = some o) (E_NoOutline : ExOk P w K mg base "NoOutline" ["found"]) (F_Outline_kept_rounds : ObF K mg "Outline" "kept_rounds") (O_is_list : Ok P w K mg base 1 "is_list" ["thing", "low", "high"] sp_is_list) (O_need_points : Ok P w K mg base 4 "need_points" ["points"] sp_need_points) : MkOk P w K mg base 5 "Outline" ["self", "rounds"] sp_Outline_init := mk_mk D (fn_Outline_init T D sm E_NoOutline F_Outline_kept_rounds O_is_list O_need_points) (fun _ _ _ _ _ _ us hl => match us, hl with | [_, _], _ => rfl)
/-! mixed -/
abbrev s_mixed : Stmt := topS 29
theorem sc_mixed : FnScope ["first", "second", "share", "rest", "one", "other"] ["first", "second", "share", "rest"] (defScope s_mixed) := ⟨rfl, rfl, rfl, by decide +kernel, rfl, by decide +kernel, by decide +kernel⟩
def b_mixed : DS := (sRet (dTupOf (dLc false (iZipD (dCons (dVar 0) (dCons (dVar 1) dNil))) (.inr [4, 5]) tYesD (dCall sp_plus [] (dCons (dCall sp_times [] (dCons (dVar 4) (dCons (dVar 3) dNil))) (dCons (dCall sp_times [] (dCons (dVar 5) (dCons (dVar 2) dNil))) dNil))) [4, 5])))
def sp_mixed : DSp := spOf 6 4 b_mixed
theorem fn_mixed {P : Program} {w : World} {K : PySem.W.Frag} {mg : Str → Option Value} {base : Heap} {f : Addr} {fd : FuncData} (T : Tz K mg) (D : DefAt K mg "mixed" s_mixed f fd) (sm : ∃ o, base.get? sysModules = some o) (O_plus : Ok P w K mg base 4 "plus" ["one", "other"] sp_plus) (O_times : Ok P w K mg base 4 "times" ["one", "other"] sp_times) : FnG P w K mg base 5 f fd ["first", "second", "share", "rest"] sp_mixed :=
  Fn_ok (k := 4) (b := b_mixed) D.F sc_mixed sm fun cdv A outer s H E G => (sd_one (sd_ret (pd_tupOf T.z_tuple (pd_lc false [("one", 4), ("other", 5)] (.inr [4, 5]) G (pi_zipD T.z_zip (pa_consD (pd_var 0) (pa_consD (pd_var 1) pa_nilD))) (fun _ _ _ _ _ => pg_tup G.calm (pgs_cons (pg_name G.nd rfl (by first | exact Or.inl rfl | exact Or.inr rfl)) (pgs_cons (pg_name G.nd rfl (by first | exact Or.inl rfl | exact Or.inr rfl)) pgs_nil))) (fun _ _ _ _ _ => pts_nilD) (fun _ _ _ _ _ => (pd_callN G.blk (O_plus.mono (by decide)) (pa_consD (pd_callN G.blk (O_times.mono (by decide)) (pa_consD (pd_var 4) (pa_consD (pd_var 3) pa_nilD))) (pa_consD (pd_callN G.blk (O_times.mono (by decide)) (pa_consD (pd_var 5) (pa_consD (pd_var 2) pa_nilD))) pa_nilD))))))))
theorem ok_mixed {P : Program} {w : World} {K : PySem.W.Frag} {mg : Str → Option Value} {base : Heap} {f : Addr} {fd : FuncData} (T : Tz K mg) (D : DefAt K mg "mixed" s_mixed f fd) (sm : ∃ o, base.get? sysModules = some o) (O_plus : Ok P w K mg base 4 "plus" ["one", "other"] sp_plus) (O_times : Ok P w K mg base 4 "times" ["one", "other"] sp_times) : Ok P w K mg base 5 "mixed" ["first", "second", "share", "rest"] sp_mixed := ok_mk D (fn_mixed T D sm O_plus O_times) (fun _ _ _ _ _ _ us hl => match us, hl with | [_, _, _, _], _ => rfl)
/-! amid -/
abbrev s_amid : Stmt := topS 30
theorem sc_amid : FnScope ["first", "second"] ["first", "second"] (defScope s_amid) := ⟨rfl, rfl, rfl, by decide +kernel, rfl, by decide +kernel, by decide +kernel⟩
def b_amid : DS := (sRet (dCall sp_mixed [] (dCons (dVar 0) (dCons (dVar 1) (dCons (dCall sp_fraction [] (dCons (dC (.int 1)) (dCons (dC (.int 2)) dNil))) (dCons (dCall sp_fraction [] (dCons (dC (.int 1)) (dCons (dC (.int 2)) dNil))) dNil))))))
def sp_amid : DSp := spOf 2 2 b_amid
theorem fn_amid {P : Program} {w : World} {K : PySem.W.Frag} {mg : Str → Option Value} {base : Heap} {f : Addr} {fd : FuncData} (T : Tz K mg) (D : DefAt K mg "amid" s_amid f fd) (sm : ∃ o, base.get? sysModules = some o) (O_fraction : Ok P w K mg base 3 "fraction" ["top", "base"] sp_fraction) (O_mixed : Ok P w K mg base 5 "mixed" ["first", "second", "share", "rest"] sp_mixed) : FnG P w K mg base 6 f fd ["first", "second"] sp_amid :=
  Fn_ok (k := 5) (b := b_amid) D.F sc_amid sm fun cdv A outer s H E G => (sd_one (sd_ret (pd_callN G (O_mixed.mono (by decide)) (pa_consD (pd_var 0) (pa_consD (pd_var 1) (pa_consD (pd_callN G (O_fraction.mono (by decide)) (pa_consD pd_int (pa_consD pd_int pa_nilD))) (pa_consD (pd_callN G (O_fraction.mono (by decide)) (pa_consD pd_int (pa_consD pd_int pa_nilD))) pa_nilD)))))))
theorem ok_amid {P : Program} {w : World} {K : PySem.W.Frag} {mg : Str → Option Value} {base : Heap} {f : Addr} {fd : FuncData} (T : Tz K mg) (D : DefAt K mg "amid" s_amid f fd) (sm : ∃ o, base.get? sysModules = some o) (O_fraction : Ok P w K mg base 3 "fraction" ["top", "base"] sp_fraction) (O_mixed : Ok P w K mg base 5 "mixed" ["first", "second", "share", "rest"] sp_mixed) : Ok P w K mg base 6 "amid" ["first", "second"] sp_amid := ok_mk D (fn_amid T D sm O_fraction O_mixed) (fun _ _ _ _ _ _ us hl => match us, hl with | [_, _], _ => rfl)
/-! curve_cut -/
abbrev s_curve_cut : Stmt := topS 31
theorem sc_curve_cut : FnScope ["first", "off", "second", "cuts", "found", "number", "share", "rest", "ahead", "behind"] ["first", "off", "second", "cuts"] (defScope s_curve_cut) := ⟨rfl, rfl, rfl, by decide +kernel, rfl, by decide +kernel, by decide +kernel⟩
def b_curve_cut : DS := (sSeq (sAsg (dLst true dNil) (gN 4)) (sSeq (sFor (iRange2 (dCons (dC (.int 1)) (dCons (dVar 3) dNil))) (gN 5) (sSeq (sPar 6 7 (dCons (dCall sp_fraction [] (dCons (dVar 5) (dCons (dVar 3) dNil))) (dCons (dCall sp_fraction [] (dCons (dOp fSub (dVar 3) (dVar 5)) (dCons (dVar 3) dNil))) dNil))) (sSeq (sPar 8 9 (dCons (dCall sp_mixed [] (dCons (dVar 0) (dCons (dVar 1) (dCons (dVar 6) (dCons (dVar 7) dNil))))) (dCons (dCall sp_mixed [] (dCons (dVar 1) (dCons (dVar 2) (dCons (dVar 6) (dCons (dVar 7) dNil))))) dNil))) (sExp (dBM "list" fAppend (dVar 4) (dCons (dCall sp_mixed [] (dCons (dVar 8) (dCons (dVar 9) (dCons (dVar 6) (dCons (dVar 7) dNil))))) dNil)))))) (sRet (dVar 4))))
def sp_curve_cut : DSp := spOf 10 4 b_curve_cut
theorem fn_curve_cut {P : Program} {w : World} {K : PySem.W.Frag} {mg : Str → Option Value} {base : Heap} {f : Addr} {fd : FuncData} (T : Tz K mg) (D : DefAt K mg "curve_cut" s_curve_cut f fd) (sm : ∃ o, base.get? sysModules = some o) (O_fraction : Ok P w K mg base 3 "fraction" ["top", "base"] sp_fraction) (O_mixed : Ok P w K mg base 5 "mixed" ["first", "second", "share", "rest"] sp_mixed) : FnG P w K mg base 6 f fd ["first", "off", "second", "cuts"] sp_curve_cut :=
  Fn_ok (k := 5) (b := b_curve_cut) D.F sc_curve_cut sm fun cdv A outer s H E G => (sd_cons (sd_set 4 G.nd (pd_lst true pa_nilD)) (sd_cons (sd_for G (pi_range2D T.z_range (pa_consD pd_int (pa_consD (pd_var 3) pa_nilD))) (pg_nameD (i := 5) G.nd) (sd_cons (sd_par 6 7 (fun _ h => ps_par G.calm G.nd rfl rfl (by decide) rfl rfl h (by rfl)) (pa_consD (pd_callN G (O_fraction.mono (by decide)) (pa_consD (pd_var 5) (pa_consD (pd_var 3) pa_nilD))) (pa_consD (pd_callN G (O_fraction.mono (by decide)) (pa_consD (pd_sub (pd_var 3) (pd_var 5)) (pa_consD (pd_var 3) pa_nilD))) pa_nilD))) (sd_cons (sd_par 8 9 (fun _ h => ps_par G.calm G.nd rfl rfl (by decide) rfl rfl h (by rfl)) (pa_consD (pd_callN G (O_mixed.mono (by decide)) (pa_consD (pd_var 0) (pa_consD (pd_var 1) (pa_consD (pd_var 6) (pa_consD (pd_var 7) pa_nilD))))) (pa_consD (pd_callN G (O_mixed.mono (by decide)) (pa_consD (pd_var 1) (pa_consD (pd_var 2) (pa_consD (pd_var 6) (pa_consD (pd_var 7) pa_nilD))))) pa_nilD))) (sd_one (sd_exp (pd_append (pd_var 4) (pa_consD (pd_callN G (O_mixed.mono (by decide)) (pa_consD (pd_var 8) (pa_consD (pd_var 9) (pa_consD (pd_var 6) (pa_consD (pd_var 7) pa_nilD))))) pa_nilD))))))) (sd_one (sd_ret (pd_var 4)))))
theorem ok_curve_cut {P : Program} {w : World} {K : PySem.W.Frag} {mg : Str → Option Value} {base : Heap} {f : Addr} {fd : FuncData} (T : Tz K mg) (D : DefAt K mg "curve_cut" s_curve_cut f fd) (sm : ∃ o, base.get? sysModules = some o) (O_fraction : Ok P w K mg base 3 "fraction" ["top", "base"] sp_fraction) (O_mixed : Ok P w K mg base 5 "mixed" ["first", "second", "share", "rest"] sp_mixed) : Ok P w K mg base 6 "curve_cut" ["first", "off", "second", "cuts"] sp_curve_cut := ok_mk D (fn_curve_cut T D sm O_fraction O_mixed) (fun _ _ _ _ _ _ us hl => match us, hl with | [_, _, _, _], _ => rfl)
/-! filled_up -/
abbrev s_filled_up : Stmt := topS 32
theorem sc_filled_up : FnScope ["rows", "found", "at", "place", "on", "last", "was_on"] ["rows"] (defScope s_filled_up) := ⟨rfl, rfl, rfl, by decide +kernel, rfl, by decide +kernel, by decide +kernel⟩
def b_filled_up : DS := (sSeq (sAsg (dLst true dNil) (gN 1)) (sSeq (sFor (iEnumD (dCons (dVar 0) dNil)) (gTupD 2 (gConsD (gN 2) (gConsD (gTupD 2 (gConsD (gN 3) (gConsD (gN 4) gNilD))) gNilD))) (sSeq (sAsg (dOp fIx (dVar 0) (dOp fSub (dVar 2) (dC (.int 1)))) (gTupD 2 (gConsD (gN 5) (gConsD (gN 6) gNilD)))) (sSeq (sIf (tAndD (tNotD (tTru (dVar 4))) (tNotD (tTru (dVar 6)))) (sExp (dBM "list" fAppend (dVar 1) (dCons (dTup (dCons (dCall sp_amid [] (dCons (dVar 5) (dCons (dVar 3) dNil))) (dCons (dC (.bl true)) dNil))) dNil))) sNil) (sExp (dBM "list" fAppend (dVar 1) (dCons (dTup (dCons (dVar 3) (dCons (dVar 4) dNil))) dNil)))))) (sSeq (sIf (tNotD (tTru (dOp fIx (dOp fIx (dVar 1) (dC (.int 0))) (dC (.int 1))))) (sRet (dOp (fAdd false) (dSl false (dVar 1) (dPart (dUn fNeg (dC (.int 1)))) dNo) (dSl false (dVar 1) dNo (dPart (dUn fNeg (dC (.int 1))))))) sNil) (sRet (dVar 1)))))
def sp_filled_up : DSp := spOf 7 1 b_filled_up
theorem fn_filled_up {P : Program} {w : World} {K : PySem.W.Frag} {mg : Str → Option Value} {base : Heap} {f : Addr} {fd : FuncData} (T : Tz K mg) (D : DefAt K mg "filled_up" s_filled_up f fd) (sm : ∃ o, base.get? sysModules = some o) (O_amid : Ok P w K mg base 6 "amid" ["first", "second"] sp_amid) : FnG P w K mg base 7 f fd ["rows"] sp_filled_up :=
  Fn_ok (k := 6) (b := b_filled_up) D.F sc_filled_up sm fun cdv A outer s H E G => (sd_cons (sd_set 1 G.nd (pd_lst true pa_nilD)) (sd_cons (sd_for G (pi_enumD T.z_enumerate (pa_consD (pd_var 0) pa_nilD)) (pg_tupD G.calm (pgs_consD (pg_nameD (i := 2) G.nd) (pgs_consD (pg_tupD G.calm (pgs_consD (pg_nameD (i := 3) G.nd) (pgs_consD (pg_nameD (i := 4) G.nd) pgs_nilD))) pgs_nilD))) (sd_cons (sd_asg (pd_ix (pd_var 0) (pd_sub (pd_var 2) pd_int)) (pg_tupD G.calm (pgs_consD (pg_nameD (i := 5) G.nd) (pgs_consD (pg_nameD (i := 6) G.nd) pgs_nilD)))) (sd_cons (sd_if (PW.pt (pw_andD (pt_notD (pt_truD (pd_var 4))) (pw_and1D (pt_notD (pt_truD (pd_var 6)))))) (sd_one (sd_exp (pd_append (pd_var 1) (pa_consD (pd_tup (pa_consD (pd_callN G (O_amid.mono (by decide)) (pa_consD (pd_var 5) (pa_consD (pd_var 3) pa_nilD))) (pa_consD pd_bl pa_nilD))) pa_nilD)))) sd_nil) (sd_one (sd_exp (pd_append (pd_var 1) (pa_consD (pd_tup (pa_consD (pd_var 3) (pa_consD (pd_var 4) pa_nilD))) pa_nilD))))))) (sd_cons (sd_if (pt_notD (pt_truD (pd_ix (pd_ix (pd_var 1) pd_int) pd_int))) (sd_one (sd_ret (pd_add false (pd_sl false (pd_var 1) (po_partD (pd_neg pd_int)) po_noD) (pd_sl false (pd_var 1) po_noD (po_partD (pd_neg pd_int)))))) sd_nil) (sd_one (sd_ret (pd_var 1))))))
theorem ok_filled_up {P : Program} {w : World} {K : PySem.W.Frag} {mg : Str → Option Value} {base : Heap} {f : Addr} {fd : FuncData} (T : Tz K mg) (D : DefAt K mg "filled_up" s_filled_up f fd) (sm : ∃ o, base.get? sysModules = some o) (O_amid : Ok P w K mg base 6 "amid" ["first", "second"] sp_amid) : Ok P w K mg base 7 "filled_up" ["rows"] sp_filled_up := ok_mk D (fn_filled_up T D sm O_amid) (fun _ _ _ _ _ _ us hl => match us, hl with | [_], _ => rfl)
/-! polygon_of -/
abbrev s_polygon_of : Stmt := topS 33
theorem sc_polygon_of : FnScope ["rows", "cuts", "some", "found", "at", "place", "on", "after"] ["rows", "cuts"] (defScope s_polygon_of) := ⟨rfl, rfl, rfl, by decide +kernel, rfl, by decide +kernel, by decide +kernel⟩
def b_polygon_of : DS := (sSeq (sAsg (dCall sp_filled_up [] (dCons (dVar 0) dNil)) (gN 2)) (sSeq (sAsg (dLst true dNil) (gN 3)) (sSeq (sFor (iEnumD (dCons (dVar 2) dNil)) (gTupD 2 (gConsD (gN 4) (gConsD (gTupD 2 (gConsD (gN 5) (gConsD (gN 6) gNilD))) gNilD))) (sIf (tTru (dVar 6)) (sExp (dBM "list" fAppend (dVar 3) (dCons (dVar 5) dNil))) (sSeq (sAsg (dOp fIx (dOp fIx (dVar 2) (dOp fMod (dOp (fAdd false) (dVar 4) (dC (.int 1))) (dB fLen (dCons (dVar 2) dNil)))) (dC (.int 0))) (gN 7)) (sExp (dBM "list" fExtV (dVar 3) (dCons (dCall sp_curve_cut [] (dCons (dOp fIx (dOp fIx (dVar 2) (dOp fSub (dVar 4) (dC (.int 1)))) (dC (.int 0))) (dCons (dVar 5) (dCons (dVar 7) (dCons (dVar 1) dNil))))) dNil)))))) (sRet (dVar 3)))))
def sp_polygon_of : DSp := spOf 8 2 b_polygon_of
theorem fn_polygon_of {P : Program} {w : World} {K : PySem.W.Frag} {mg : Str → Option Value} {base : Heap} {f : Addr} {fd : FuncData} (T : Tz K mg) (D : DefAt K mg "polygon_of" s_polygon_of f fd) (sm : ∃ o, base.get? sysModules = some o) (O_curve_cut : Ok P w K mg base 6 "curve_cut" ["first", "off", "second", "cuts"] sp_curve_cut) (O_filled_up : Ok P w K mg base 7 "filled_up" ["rows"] sp_filled_up) : FnG P w K mg base 8 f fd ["rows", "cuts"] sp_polygon_of :=
  Fn_ok (k := 7) (b := b_polygon_of) D.F sc_polygon_of sm fun cdv A outer s H E G => (sd_cons (sd_set 2 G.nd (pd_callN G (O_filled_up.mono (by decide)) (pa_consD (pd_var 0) pa_nilD))) (sd_cons (sd_set 3 G.nd (pd_lst true pa_nilD)) (sd_cons (sd_for G (pi_enumD T.z_enumerate (pa_consD (pd_var 2) pa_nilD)) (pg_tupD G.calm (pgs_consD (pg_nameD (i := 4) G.nd) (pgs_consD (pg_tupD G.calm (pgs_consD (pg_nameD (i := 5) G.nd) (pgs_consD (pg_nameD (i := 6) G.nd) pgs_nilD))) pgs_nilD))) (sd_one (sd_if (pt_truD (pd_var 6)) (sd_one (sd_exp (pd_append (pd_var 3) (pa_consD (pd_var 5) pa_nilD)))) (sd_cons (sd_set 7 G.nd (pd_ix (pd_ix (pd_var 2) (pd_mod (pd_add false (pd_var 4) pd_int) (pd_callB call_len sim_len T.z_len (pa_consD (pd_var 2) pa_nilD)))) pd_int)) (sd_one (sd_exp (pd_extV (pd_var 3) (pa_consD (pd_callN G (O_curve_cut.mono (by decide)) (pa_consD (pd_ix (pd_ix (pd_var 2) (pd_sub (pd_var 4) pd_int)) pd_int) (pa_consD (pd_var 5) (pa_consD (pd_var 7) (pa_consD (pd_var 1) pa_nilD))))) pa_nilD)))))))) (sd_one (sd_ret (pd_var 3))))))
theorem ok_polygon_of {P : Program} {w : World} {K : PySem.W.Frag} {mg : Str → Option Value} {base : Heap} {f : Addr} {fd : FuncData} (T : Tz K mg) (D : DefAt K mg "polygon_of" s_polygon_of f fd) (sm : ∃ o, base.get? sysModules = some o) (O_curve_cut : Ok P w K mg base 6 "curve_cut" ["first", "off", "second", "cuts"] sp_curve_cut) (O_filled_up : Ok P w K mg base 7 "filled_up" ["rows"] sp_filled_up) : Ok P w K mg base 8 "polygon_of" ["rows", "cuts"] sp_polygon_of := ok_mk D (fn_polygon_of T D sm O_curve_cut O_filled_up) (fun _ _ _ _ _ _ us hl => match us, hl with | [_, _], _ => rfl)
/-! polygons -/
abbrev s_polygons : Stmt := topS 34
theorem sc_polygons : FnScope ["places", "ends", "truths", "cuts", "rows", "found", "begin", "end"] ["places", "ends", "truths", "cuts"] (defScope s_polygons) := ⟨rfl, rfl, rfl, by decide +kernel, rfl, by decide +kernel, by decide +kernel⟩
def b_polygons : DS := (sSeq (sIf (tNotD (tTru (dCall sp_is_whole [] (dCons (dVar 3) (dCons (dC (.int 1)) (dCons (dC (.int 4)) dNil)))))) (sRz "NoLimit" ["found"] (dCons (dVar 3) dNil)) sNil) (sSeq (sAsg (dListZip (dCons (dVar 0) (dCons (dVar 2) dNil))) (gN 4)) (sSeq (sAsg (dLst true dNil) (gN 5)) (sSeq (sAsg (dC (.int 0)) (gN 6)) (sSeq (sFor (iSeq (dVar 1)) (gN 7) (sSeq (sExp (dBM "list" fAppend (dVar 5) (dCons (dCall sp_polygon_of [] (dCons (dSl false (dVar 4) (dPart (dVar 6)) (dPart (dOp (fAdd false) (dVar 7) (dC (.int 1))))) (dCons (dVar 3) dNil))) dNil))) (sAsg (dOp (fAdd false) (dVar 7) (dC (.int 1))) (gN 6)))) (sRet (dVar 5)))))))
def sp_polygons : DSp := spOf 8 4 b_polygons
theorem fn_polygons {P : Program} {w : World} {K : PySem.W.Frag} {mg : Str → Option Value} {base : Heap} {f : Addr} {fd : FuncData} (T : Tz K mg) (D : DefD K mg "polygons" s_polygons f fd [] [("cuts", V.int (2))]) (sm : ∃ o, base.get? sysModules = some o) (E_NoLimit : ExOk P w K mg base "NoLimit" ["found"]) (O_is_whole : Ok P w K mg base 2 "is_whole" ["thing", "low", "high"] sp_is_whole) (O_polygon_of : Ok P w K mg base 8 "polygon_of" ["rows", "cuts"] sp_polygon_of) : FnG P w K mg base 9 f fd ["places", "ends", "truths", "cuts"] sp_polygons :=
  Fn_okD (k := 8) (b := b_polygons) D.F sc_polygons sm fun cdv A outer s H E G => (sd_cons (sd_if (pt_notD (pt_truD (pd_callN G (O_is_whole.mono (by decide)) (pa_consD (pd_var 3) (pa_consD pd_int (pa_consD (pd_glbInt T.g_MOST_CUTS) pa_nilD)))))) (sd_one (sd_raise (G.mono (j := 2) (by decide)) E_NoLimit (by simp) (pa_consD (pd_var 3) pa_nilD))) sd_nil) (sd_cons (sd_set 4 G.nd (pd_listZip G.calm T.z_list T.z_zip (pa_consD (pd_var 0) (pa_consD (pd_var 2) pa_nilD)))) (sd_cons (sd_set 5 G.nd (pd_lst true pa_nilD)) (sd_cons (sd_set 6 G.nd pd_int) (sd_cons (sd_for G (pi_seqD (pd_var 1)) (pg_nameD (i := 7) G.nd) (sd_cons (sd_exp (pd_append (pd_var 5) (pa_consD (pd_callN G (O_polygon_of.mono (by decide)) (pa_consD (pd_sl false (pd_var 4) (po_partD (pd_var 6)) (po_partD (pd_add false (pd_var 7) pd_int))) (pa_consD (pd_var 3) pa_nilD))) pa_nilD))) (sd_one (sd_set 6 G.nd (pd_add false (pd_var 7) pd_int))))) (sd_one (sd_ret (pd_var 5))))))))
theorem okc_polygons_3 {P : Program} {w : World} {K : PySem.W.Frag} {mg : Str → Option Value} {base : Heap} {f : Addr} {fd : FuncData} (T : Tz K mg) (D : DefD K mg "polygons" s_polygons f fd [] [("cuts", V.int (2))]) (sm : ∃ o, base.get? sysModules = some o) (E_NoLimit : ExOk P w K mg base "NoLimit" ["found"]) (O_is_whole : Ok P w K mg base 2 "is_whole" ["thing", "low", "high"] sp_is_whole) (O_polygon_of : Ok P w K mg base 8 "polygon_of" ["rows", "cuts"] sp_polygon_of) : OkC P w K mg base 9 "polygons" 3 [] [0, 1, 2, 3] [.int (2)] sp_polygons := okC_k D (fn_polygons  T D sm E_NoLimit O_is_whole O_polygon_of) [("cuts", V.int (2))] (by simp) (fun q hq => by rw [List.mem_singleton.mp hq]; simp) (fun _ _ => .cons (.int _) (.nil)) (fun _ _ _ _ _ _ us mv ws hl hm hk => match us, mv, ws, hl, hm, hk with | [_, _, _], [_], [], _, _, _ => ⟨_, _, _, _, _, _, rfl, rfl, rfl⟩)
theorem okc_polygons_0_ends_places_cuts_truths {P : Program} {w : World} {K : PySem.W.Frag} {mg : Str → Option Value} {base : Heap} {f : Addr} {fd : FuncData} (T : Tz K mg) (D : DefD K mg "polygons" s_polygons f fd [] [("cuts", V.int (2))]) (sm : ∃ o, base.get? sysModules = some o) (E_NoLimit : ExOk P w K mg base "NoLimit" ["found"]) (O_is_whole : Ok P w K mg base 2 "is_whole" ["thing", "low", "high"] sp_is_whole) (O_polygon_of : Ok P w K mg base 8 "polygon_of" ["rows", "cuts"] sp_polygon_of) : OkC P w K mg base 9 "polygons" 0 ["ends", "places", "cuts", "truths"] [1, 0, 3, 2] [] sp_polygons := okC_k D (fn_polygons  T D sm E_NoLimit O_is_whole O_polygon_of) [] (by simp) (fun q hq => absurd hq List.not_mem_nil) (fun _ _ => .nil) (fun _ _ _ _ _ _ us mv ws hl hm hk => match us, mv, ws, hl, hm, hk with | [], [], [_, _, _, _], _, _, _ => rfl)
/-! _law_cell -/
abbrev s__law_cell : Stmt := topS 36
theorem sc__law_cell : FnScope ["_law_script", "_law_k"] ["_law_script", "_law_k"] (defScope s__law_cell) := ⟨rfl, rfl, rfl, by decide +kernel, rfl, by decide +kernel, by decide +kernel⟩
def b__law_cell : DS := (sSeq (sIf (tBl (dOp fLtS (dVar 1) (dB fLen (dCons (dVar 0) dNil)))) (sRet (dOp fIx (dVar 0) (dVar 1))) sNil) (sRet (dOp (fAdd false) (dOp fMulI (dC (.int 15485863)) (dVar 1)) (dC (.int 23)))))
def sp__law_cell : DSp := spOf 2 2 b__law_cell
theorem fn__law_cell {P : Program} {w : World} {K : PySem.W.Frag} {mg : Str → Option Value} {base : Heap} {f : Addr} {fd : FuncData} (T : Tz K mg) (D : DefAt K mg "_law_cell" s__law_cell f fd) (sm : ∃ o, base.get? sysModules = some o)  : FnG P w K mg base 1 f fd ["_law_script", "_law_k"] sp__law_cell :=
  Fn_ok (k := 0) (b := b__law_cell) D.F sc__law_cell sm fun cdv A outer s H E G => (sd_cons (sd_if (pt_lt (pd_var 1) (pd_callB call_len sim_len T.z_len (pa_consD (pd_var 0) pa_nilD))) (sd_one (sd_ret (pd_ix (pd_var 0) (pd_var 1)))) sd_nil) (sd_one (sd_ret (pd_add false (pd_mulI pd_int (pd_var 1)) pd_int))))
theorem ok__law_cell {P : Program} {w : World} {K : PySem.W.Frag} {mg : Str → Option Value} {base : Heap} {f : Addr} {fd : FuncData} (T : Tz K mg) (D : DefAt K mg "_law_cell" s__law_cell f fd) (sm : ∃ o, base.get? sysModules = some o)  : Ok P w K mg base 1 "_law_cell" ["_law_script", "_law_k"] sp__law_cell := ok_mk D (fn__law_cell T D sm ) (fun _ _ _ _ _ _ us hl => match us, hl with | [_, _], _ => rfl)
/-! _law_box -/
abbrev s__law_box : Stmt := topS 37
theorem sc__law_box : FnScope ["_law_cell_here"] ["_law_cell_here"] (defScope s__law_box) := ⟨rfl, rfl, rfl, by decide +kernel, rfl, by decide +kernel, by decide +kernel⟩
def b__law_box : DS := (sRet (dLst true (dCons (dB fMax2 (dCons (dC (.int 0)) (dCons (dOp fSub (dVar 0) (dOp fPow (dC (.int 10)) (dC (.int 18)))) dNil))) (dCons (dOp fMod (dVar 0) (dC (.int 2147483629))) (dCons (dOp fMod (dVar 0) (dC (.int 2147483587))) (dCons (dC (.int 0)) dNil))))))
def sp__law_box : DSp := spOf 1 1 b__law_box
theorem fn__law_box {P : Program} {w : World} {K : PySem.W.Frag} {mg : Str → Option Value} {base : Heap} {f : Addr} {fd : FuncData} (T : Tz K mg) (D : DefAt K mg "_law_box" s__law_box f fd) (sm : ∃ o, base.get? sysModules = some o)  : FnG P w K mg base 1 f fd ["_law_cell_here"] sp__law_box :=
  Fn_ok (k := 0) (b := b__law_box) D.F sc__law_box sm fun cdv A outer s H E G => (sd_one (sd_ret (pd_lst true (pa_consD (pd_callB (call_max2 G.calm) sim_max2 T.z_max (pa_consD pd_int (pa_consD (pd_sub (pd_var 0) (pd_pow pd_int pd_int)) pa_nilD))) (pa_consD (pd_mod (pd_var 0) pd_int) (pa_consD (pd_mod (pd_var 0) pd_int) (pa_consD pd_int pa_nilD)))))))
theorem ok__law_box {P : Program} {w : World} {K : PySem.W.Frag} {mg : Str → Option Value} {base : Heap} {f : Addr} {fd : FuncData} (T : Tz K mg) (D : DefAt K mg "_law_box" s__law_box f fd) (sm : ∃ o, base.get? sysModules = some o)  : Ok P w K mg base 1 "_law_box" ["_law_cell_here"] sp__law_box := ok_mk D (fn__law_box T D sm ) (fun _ _ _ _ _ _ us hl => match us, hl with | [_], _ => rfl)
/-! _law_take -/
abbrev s__law_take : Stmt := topS 38
theorem sc__law_take : FnScope ["_law_box_here", "_law_many", "_law_digit", "_law_turn", "_law_one"] ["_law_box_here", "_law_many"] (defScope s__law_take) := ⟨rfl, rfl, rfl, by decide +kernel, rfl, by decide +kernel, by decide +kernel⟩
def b__law_take : DS := (sSeq (sIf (tBl (dOp fGtS (dOp fIx (dVar 0) (dC (.int 0))) (dC (.int 0)))) (sSeq (sAsg (dOp fMod (dOp fIx (dVar 0) (dC (.int 0))) (dVar 1)) (gN 2)) (sSeq (sAsg (dOp fDiv (dOp fIx (dVar 0) (dC (.int 0))) (dVar 1)) (gSubD (dVar 0) (dC (.int 0)) fSet)) (sRet (dVar 2)))) sNil) (sSeq (sAsg (dOp (fAdd false) (dOp fIx (dVar 0) (dC (.int 3))) (dC (.int 1))) (gSubD (dVar 0) (dC (.int 3)) fSet)) (sSeq (sAsg (dOp fIx (dVar 0) (dC (.int 3))) (gN 3)) (sSeq (sAsg (dOp fMod (dOp fPow (dOp (fAdd false) (dOp (fAdd false) (dOp fMulI (dOp fIx (dVar 0) (dC (.int 1))) (dOp (fAdd false) (dOp fMulI (dC (.int 2)) (dVar 3)) (dC (.int 3)))) (dOp fMulI (dOp fMulI (dC (.int 6151)) (dVar 3)) (dVar 3))) (dC (.int 23))) (dC (.int 5))) (dC (.int 2147483647))) (gN 4)) (sRet (dOp fMod (dOp fDiv (dOp fMod (dOp fPow (dOp (fAdd false) (dOp (fAdd false) (dVar 4) (dOp fMulI (dOp fIx (dVar 0) (dC (.int 2))) (dVar 3))) (dC (.int 41))) (dC (.int 3))) (dC (.int 2147483579))) (dC (.int 16))) (dVar 1)))))))
def sp__law_take : DSp := spOf 5 2 b__law_take
theorem fn__law_take {P : Program} {w : World} {K : PySem.W.Frag} {mg : Str → Option Value} {base : Heap} {f : Addr} {fd : FuncData} (T : Tz K mg) (D : DefAt K mg "_law_take" s__law_take f fd) (sm : ∃ o, base.get? sysModules = some o)  : FnG P w K mg base 1 f fd ["_law_box_here", "_law_many"] sp__law_take :=
  Fn_ok (k := 0) (b := b__law_take) D.F sc__law_take sm fun cdv A outer s H E G => (sd_cons (sd_if (pt_gt (pd_ix (pd_var 0) pd_int) pd_int) (sd_cons (sd_set 2 G.nd (pd_mod (pd_ix (pd_var 0) pd_int) (pd_var 1))) (sd_cons (sd_asg (pd_fdiv (pd_ix (pd_var 0) pd_int) (pd_var 1)) (pg_subD (pd_var 0) pd_int)) (sd_one (sd_ret (pd_var 2))))) sd_nil) (sd_cons (sd_asg (pd_add false (pd_ix (pd_var 0) pd_int) pd_int) (pg_subD (pd_var 0) pd_int)) (sd_cons (sd_set 3 G.nd (pd_ix (pd_var 0) pd_int)) (sd_cons (sd_set 4 G.nd (pd_mod (pd_pow (pd_add false (pd_add false (pd_mulI (pd_ix (pd_var 0) pd_int) (pd_add false (pd_mulI pd_int (pd_var 3)) pd_int)) (pd_mulI (pd_mulI pd_int (pd_var 3)) (pd_var 3))) pd_int) pd_int) pd_int)) (sd_one (sd_ret (pd_mod (pd_fdiv (pd_mod (pd_pow (pd_add false (pd_add false (pd_var 4) (pd_mulI (pd_ix (pd_var 0) pd_int) (pd_var 3))) pd_int) pd_int) pd_int) pd_int) (pd_var 1))))))))
theorem ok__law_take {P : Program} {w : World} {K : PySem.W.Frag} {mg : Str → Option Value} {base : Heap} {f : Addr} {fd : FuncData} (T : Tz K mg) (D : DefAt K mg "_law_take" s__law_take f fd) (sm : ∃ o, base.get? sysModules = some o)  : Ok P w K mg base 1 "_law_take" ["_law_box_here", "_law_many"] sp__law_take := ok_mk D (fn__law_take T D sm ) (fun _ _ _ _ _ _ us hl => match us, hl with | [_, _], _ => rfl)
/-! _law_rounds -/
abbrev s__law_rounds : Stmt := topS 39
theorem sc__law_rounds : FnScope ["_law_box_here", "_law_found", "_law_turn", "_law_many", "_law_wide", "_law_way", "_law_points", "_law_k", "_law_on"] ["_law_box_here"] (defScope s__law_rounds) := ⟨rfl, rfl, rfl, by decide +kernel, rfl, by decide +kernel, by decide +kernel⟩
def b__law_rounds : DS := (sSeq (sAsg (dLst true dNil) (gN 1)) (sSeq (sFor (iRange1 (dCons (dOp fIx (dLst false (dCons (dC (.int 1)) (dCons (dOp (fAdd false) (dC (.int 1)) (dCall sp__law_take [] (dCons (dVar 0) (dCons (dC (.int 4)) dNil)))) (dCons (dC (.int 4)) dNil)))) (dCall sp__law_take [] (dCons (dVar 0) (dCons (dC (.int 3)) dNil)))) dNil)) (gN 2) (sSeq (sAsg (dOp fIx (dLst false (dCons (dC (.int 3)) (dCons (dOp (fAdd false) (dC (.int 3)) (dCall sp__law_take [] (dCons (dVar 0) (dCons (dC (.int 10)) dNil)))) (dCons (dC (.int 12)) dNil)))) (dCall sp__law_take [] (dCons (dVar 0) (dCons (dC (.int 3)) dNil)))) (gN 3)) (sSeq (sAsg (dOp fIx (dLst false (dCons (dC (.int 7)) (dCons (dC (.int 2001)) (dCons (dC (.int 199999)) dNil)))) (dCall sp__law_take [] (dCons (dVar 0) (dCons (dC (.int 3)) dNil)))) (gN 4)) (sSeq (sAsg (dCall sp__law_take [] (dCons (dVar 0) (dCons (dC (.int 4)) dNil))) (gN 5)) (sSeq (sAsg (dLst true dNil) (gN 6)) (sSeq (sFor (iRange1 (dCons (dVar 3) dNil)) (gN 7) (sSeq (sAsg (dOp fIx (dLst false (dCons (dC (.bl true)) (dCons (dOp fEq (dOp fMod (dVar 7) (dC (.int 2))) (dC (.int 0))) (dCons (dOp fEq (dCall sp__law_take [] (dCons (dVar 0) (dCons (dC (.int 2)) dNil))) (dC (.int 0))) (dCons (dOp fEq (dCall sp__law_take [] (dCons (dVar 0) (dCons (dC (.int 6)) dNil))) (dC (.int 0))) dNil))))) (dVar 5)) (gN 8)) (sExp (dBM "list" fAppend (dVar 6) (dCons (dTup (dCons (dOp fSub (dCall sp__law_take [] (dCons (dVar 0) (dCons (dVar 4) dNil))) (dOp fDiv (dVar 4) (dC (.int 2)))) (dCons (dOp fSub (dCall sp__law_take [] (dCons (dVar 0) (dCons (dVar 4) dNil))) (dOp fDiv (dVar 4) (dC (.int 2)))) (dCons (dVar 8) dNil)))) dNil))))) (sExp (dBM "list" fAppend (dVar 1) (dCons (dVar 6) dNil))))))))) (sRet (dVar 1))))
def sp__law_rounds : DSp := spOf 9 1 b__law_rounds
theorem fn__law_rounds {P : Program} {w : World} {K : PySem.W.Frag} {mg : Str → Option Value} {base : Heap} {f : Addr} {fd : FuncData} (T : Tz K mg) (D : DefAt K mg "_law_rounds" s__law_rounds f fd) (sm : ∃ o, base.get? sysModules = some o) (O__law_take : Ok P w K mg base 1 "_law_take" ["_law_box_here", "_law_many"] sp__law_take) : FnG P w K mg base 2 f fd ["_law_box_here"] sp__law_rounds :=
  Fn_ok (k := 1) (b := b__law_rounds) D.F sc__law_rounds sm fun cdv A outer s H E G => (sd_cons (sd_set 1 G.nd (pd_lst true pa_nilD)) (sd_cons (sd_for G (pi_range1D T.z_range (pa_consD (pd_ix (pd_lst false (pa_consD pd_int (pa_consD (pd_add false pd_int (pd_callN G (O__law_take.mono (by decide)) (pa_consD (pd_var 0) (pa_consD pd_int pa_nilD)))) (pa_consD pd_int pa_nilD)))) (pd_callN G (O__law_take.mono (by decide)) (pa_consD (pd_var 0) (pa_consD pd_int pa_nilD)))) pa_nilD)) (pg_nameD (i := 2) G.nd) (sd_cons (sd_set 3 G.nd (pd_ix (pd_lst false (pa_consD pd_int (pa_consD (pd_add false pd_int (pd_callN G (O__law_take.mono (by decide)) (pa_consD (pd_var 0) (pa_consD pd_int pa_nilD)))) (pa_consD pd_int pa_nilD)))) (pd_callN G (O__law_take.mono (by decide)) (pa_consD (pd_var 0) (pa_consD pd_int pa_nilD))))) (sd_cons (sd_set 4 G.nd (pd_ix (pd_lst false (pa_consD pd_int (pa_consD pd_int (pa_consD pd_int pa_nilD)))) (pd_callN G (O__law_take.mono (by decide)) (pa_consD (pd_var 0) (pa_consD pd_int pa_nilD))))) (sd_cons (sd_set 5 G.nd (pd_callN G (O__law_take.mono (by decide)) (pa_consD (pd_var 0) (pa_consD pd_int pa_nilD)))) (sd_cons (sd_set 6 G.nd (pd_lst true pa_nilD)) (sd_cons (sd_for G (pi_range1D T.z_range (pa_consD (pd_var 3) pa_nilD)) (pg_nameD (i := 7) G.nd) (sd_cons (sd_set 8 G.nd (pd_ix (pd_lst false (pa_consD pd_bl (pa_consD (pd_eq G (pd_mod (pd_var 7) pd_int) pd_int) (pa_consD (pd_eq G (pd_callN G (O__law_take.mono (by decide)) (pa_consD (pd_var 0) (pa_consD pd_int pa_nilD))) pd_int) (pa_consD (pd_eq G (pd_callN G (O__law_take.mono (by decide)) (pa_consD (pd_var 0) (pa_consD pd_int pa_nilD))) pd_int) pa_nilD))))) (pd_var 5))) (sd_one (sd_exp (pd_append (pd_var 6) (pa_consD (pd_tup (pa_consD (pd_sub (pd_callN G (O__law_take.mono (by decide)) (pa_consD (pd_var 0) (pa_consD (pd_var 4) pa_nilD))) (pd_fdiv (pd_var 4) pd_int)) (pa_consD (pd_sub (pd_callN G (O__law_take.mono (by decide)) (pa_consD (pd_var 0) (pa_consD (pd_var 4) pa_nilD))) (pd_fdiv (pd_var 4) pd_int)) (pa_consD (pd_var 8) pa_nilD)))) pa_nilD)))))) (sd_one (sd_exp (pd_append (pd_var 1) (pa_consD (pd_var 6) pa_nilD)))))))))) (sd_one (sd_ret (pd_var 1)))))
theorem ok__law_rounds {P : Program} {w : World} {K : PySem.W.Frag} {mg : Str → Option Value} {base : Heap} {f : Addr} {fd : FuncData} (T : Tz K mg) (D : DefAt K mg "_law_rounds" s__law_rounds f fd) (sm : ∃ o, base.get? sysModules = some o) (O__law_take : Ok P w K mg base 1 "_law_take" ["_law_box_here", "_law_many"] sp__law_take) : Ok P w K mg base 2 "_law_rounds" ["_law_box_here"] sp__law_rounds := ok_mk D (fn__law_rounds T D sm O__law_take) (fun _ _ _ _ _ _ us hl => match us, hl with | [_], _ => rfl)
/-! _law_number -/
abbrev s__law_number : Stmt := topS 40
theorem sc__law_number : FnScope ["_law_top", "_law_base", "_law_one", "_law_other"] ["_law_top", "_law_base"] (defScope s__law_number) := ⟨rfl, rfl, rfl, by decide +kernel, rfl, by decide +kernel, by decide +kernel⟩
def b__law_number : DS := (sSeq (sPar 2 3 (dCons (dB fAbs (dCons (dVar 0) dNil)) (dCons (dVar 1) dNil))) (sSeq (sWhile (tBl (dOp fGtS (dVar 3) (dC (.int 0)))) (sPar 2 3 (dCons (dVar 3) (dCons (dOp fMod (dVar 2) (dVar 3)) dNil)))) (sRet (dIf (tBl (dOp fEq (dVar 1) (dVar 2))) (dOp fDiv (dVar 0) (dVar 2)) (dTup (dCons (dOp fDiv (dVar 0) (dVar 2)) (dCons (dOp fDiv (dVar 1) (dVar 2)) dNil)))))))
def sp__law_number : DSp := spOf 4 2 b__law_number
theorem fn__law_number {P : Program} {w : World} {K : PySem.W.Frag} {mg : Str → Option Value} {base : Heap} {f : Addr} {fd : FuncData} (T : Tz K mg) (D : DefAt K mg "_law_number" s__law_number f fd) (sm : ∃ o, base.get? sysModules = some o)  : FnG P w K mg base 1 f fd ["_law_top", "_law_base"] sp__law_number :=
  Fn_ok (k := 0) (b := b__law_number) D.F sc__law_number sm fun cdv A outer s H E G => (sd_cons (sd_par 2 3 (fun _ h => ps_par G.calm G.nd rfl rfl (by decide) rfl rfl h (by rfl)) (pa_consD (pd_callB call_abs sim_abs T.z_abs (pa_consD (pd_var 0) pa_nilD)) (pa_consD (pd_var 1) pa_nilD))) (sd_cons (sd_while G (pt_gt (pd_var 3) pd_int) (sd_one (sd_par 2 3 (fun _ h => ps_par G.calm G.nd rfl rfl (by decide) rfl rfl h (by rfl)) (pa_consD (pd_var 3) (pa_consD (pd_mod (pd_var 2) (pd_var 3)) pa_nilD))))) (sd_one (sd_ret (pd_if (pt_eq G (pd_var 1) (pd_var 2)) (pd_fdiv (pd_var 0) (pd_var 2)) (pd_tup (pa_consD (pd_fdiv (pd_var 0) (pd_var 2)) (pa_consD (pd_fdiv (pd_var 1) (pd_var 2)) pa_nilD))))))))
theorem ok__law_number {P : Program} {w : World} {K : PySem.W.Frag} {mg : Str → Option Value} {base : Heap} {f : Addr} {fd : FuncData} (T : Tz K mg) (D : DefAt K mg "_law_number" s__law_number f fd) (sm : ∃ o, base.get? sysModules = some o)  : Ok P w K mg base 1 "_law_number" ["_law_top", "_law_base"] sp__law_number := ok_mk D (fn__law_number T D sm ) (fun _ _ _ _ _ _ us hl => match us, hl with | [_, _], _ => rfl)
/-! _law_ring -/
abbrev s__law_ring : Stmt := topS 41
theorem sc__law_ring : FnScope ["_law_points", "_law_found", "_law_k", "_law_x", "_law_y", "_law_on", "_law_after"] ["_law_points"] (defScope s__law_ring) := ⟨rfl, rfl, rfl, by decide +kernel, rfl, by decide +kernel, by decide +kernel⟩
def b__law_ring : DS := (sSeq (sAsg (dLst true dNil) (gN 1)) (sSeq (sFor (iEnumD (dCons (dVar 0) dNil)) (gTupD 2 (gConsD (gN 2) (gConsD (gTupD 3 (gConsD (gN 3) (gConsD (gN 4) (gConsD (gN 5) gNilD)))) gNilD))) (sSeq (sExp (dBM "list" fAppend (dVar 1) (dCons (dTup (dCons (dOp fMulI (dC (.int 2)) (dVar 3)) (dCons (dOp fMulI (dC (.int 2)) (dVar 4)) (dCons (dVar 5) dNil)))) dNil))) (sSeq (sAsg (dOp fIx (dVar 0) (dOp fMod (dOp (fAdd false) (dVar 2) (dC (.int 1))) (dB fLen (dCons (dVar 0) dNil)))) (gN 6)) (sIf (tAndD (tNotD (tTru (dVar 5))) (tNotD (tTru (dOp fIx (dVar 6) (dC (.int 2)))))) (sExp (dBM "list" fAppend (dVar 1) (dCons (dTup (dCons (dOp (fAdd false) (dVar 3) (dOp fIx (dVar 6) (dC (.int 0)))) (dCons (dOp (fAdd false) (dVar 4) (dOp fIx (dVar 6) (dC (.int 1)))) (dCons (dC (.bl true)) dNil)))) dNil))) sNil)))) (sRet (dIf (tTru (dOp fIx (dOp fIx (dVar 1) (dC (.int 0))) (dC (.int 2)))) (dVar 1) (dOp (fAdd false) (dSl false (dVar 1) (dPart (dUn fNeg (dC (.int 1)))) dNo) (dSl false (dVar 1) dNo (dPart (dUn fNeg (dC (.int 1))))))))))
def sp__law_ring : DSp := spOf 7 1 b__law_ring
theorem fn__law_ring {P : Program} {w : World} {K : PySem.W.Frag} {mg : Str → Option Value} {base : Heap} {f : Addr} {fd : FuncData} (T : Tz K mg) (D : DefAt K mg "_law_ring" s__law_ring f fd) (sm : ∃ o, base.get? sysModules = some o)  : FnG P w K mg base 1 f fd ["_law_points"] sp__law_ring :=
  Fn_ok (k := 0) (b := b__law_ring) D.F sc__law_ring sm fun cdv A outer s H E G => (sd_cons (sd_set 1 G.nd (pd_lst true pa_nilD)) (sd_cons (sd_for G (pi_enumD T.z_enumerate (pa_consD (pd_var 0) pa_nilD)) (pg_tupD G.calm (pgs_consD (pg_nameD (i := 2) G.nd) (pgs_consD (pg_tupD G.calm (pgs_consD (pg_nameD (i := 3) G.nd) (pgs_consD (pg_nameD (i := 4) G.nd) (pgs_consD (pg_nameD (i := 5) G.nd) pgs_nilD)))) pgs_nilD))) (sd_cons (sd_exp (pd_append (pd_var 1) (pa_consD (pd_tup (pa_consD (pd_mulI pd_int (pd_var 3)) (pa_consD (pd_mulI pd_int (pd_var 4)) (pa_consD (pd_var 5) pa_nilD)))) pa_nilD))) (sd_cons (sd_set 6 G.nd (pd_ix (pd_var 0) (pd_mod (pd_add false (pd_var 2) pd_int) (pd_callB call_len sim_len T.z_len (pa_consD (pd_var 0) pa_nilD))))) (sd_one (sd_if (PW.pt (pw_andD (pt_notD (pt_truD (pd_var 5))) (pw_and1D (pt_notD (pt_truD (pd_ix (pd_var 6) pd_int)))))) (sd_one (sd_exp (pd_append (pd_var 1) (pa_consD (pd_tup (pa_consD (pd_add false (pd_var 3) (pd_ix (pd_var 6) pd_int)) (pa_consD (pd_add false (pd_var 4) (pd_ix (pd_var 6) pd_int)) (pa_consD pd_bl pa_nilD)))) pa_nilD)))) sd_nil))))) (sd_one (sd_ret (pd_if (pt_truD (pd_ix (pd_ix (pd_var 1) pd_int) pd_int)) (pd_var 1) (pd_add false (pd_sl false (pd_var 1) (po_partD (pd_neg pd_int)) po_noD) (pd_sl false (pd_var 1) po_noD (po_partD (pd_neg pd_int)))))))))
theorem ok__law_ring {P : Program} {w : World} {K : PySem.W.Frag} {mg : Str → Option Value} {base : Heap} {f : Addr} {fd : FuncData} (T : Tz K mg) (D : DefAt K mg "_law_ring" s__law_ring f fd) (sm : ∃ o, base.get? sysModules = some o)  : Ok P w K mg base 1 "_law_ring" ["_law_points"] sp__law_ring := ok_mk D (fn__law_ring T D sm ) (fun _ _ _ _ _ _ us hl => match us, hl with | [_], _ => rfl)
/-! _law_curve -/
abbrev s__law_curve : Stmt := topS 42
theorem sc__law_curve : FnScope ["_law_first", "_law_off", "_law_second", "_law_many", "_law_base", "_law_found", "_law_s", "_law_rest", "_law_a", "_law_b", "_law_c", "_law_tops", "_law_k", "_law_top"] ["_law_first", "_law_off", "_law_second", "_law_many", "_law_base"] (defScope s__law_curve) := ⟨rfl, rfl, rfl, by decide +kernel, rfl, by decide +kernel, by decide +kernel⟩
def b__law_curve : DS := (sSeq (sAsg (dLst true dNil) (gN 5)) (sSeq (sFor (iRange2 (dCons (dC (.int 1)) (dCons (dVar 3) dNil))) (gN 6) (sSeq (sAsg (dOp fSub (dVar 3) (dVar 6)) (gN 7)) (sSeq (sAsg (dTup (dCons (dOp fMulI (dVar 7) (dVar 7)) (dCons (dOp fMulI (dOp fMulI (dC (.int 2)) (dVar 6)) (dVar 7)) (dCons (dOp fMulI (dVar 6) (dVar 6)) dNil)))) (gTupD 3 (gConsD (gN 8) (gConsD (gN 9) (gConsD (gN 10) gNilD))))) (sSeq (sAsg (dLc false (iRange1 (dCons (dC (.int 2)) dNil)) (.inl 12) tYesD (dOp (fAdd false) (dOp (fAdd false) (dOp fMulI (dVar 8) (dOp fIx (dVar 0) (dVar 12))) (dOp fMulI (dVar 9) (dOp fIx (dVar 1) (dVar 12)))) (dOp fMulI (dVar 10) (dOp fIx (dVar 2) (dVar 12)))) [12]) (gN 11)) (sExp (dBM "list" fAppend (dVar 5) (dCons (dTupOf (dLc false (iSeq (dVar 11)) (.inl 13) tYesD (dCall sp__law_number [] (dCons (dVar 13) (dCons (dOp fMulI (dOp fMulI (dOp fMulI (dC (.int 2)) (dVar 3)) (dVar 3)) (dVar 4)) dNil))) [13])) dNil))))))) (sRet (dVar 5))))
def sp__law_curve : DSp := spOf 14 5 b__law_curve
theorem fn__law_curve {P : Program} {w : World} {K : PySem.W.Frag} {mg : Str → Option Value} {base : Heap} {f : Addr} {fd : FuncData} (T : Tz K mg) (D : DefAt K mg "_law_curve" s__law_curve f fd) (sm : ∃ o, base.get? sysModules = some o) (O__law_number : Ok P w K mg base 1 "_law_number" ["_law_top", "_law_base"] sp__law_number) : FnG P w K mg base 2 f fd ["_law_first", "_law_off", "_law_second", "_law_many", "_law_base"] sp__law_curve :=
  Fn_ok (k := 1) (b := b__law_curve) D.F sc__law_curve sm fun cdv A outer s H E G => (sd_cons (sd_set 5 G.nd (pd_lst true pa_nilD)) (sd_cons (sd_for G (pi_range2D T.z_range (pa_consD pd_int (pa_consD (pd_var 3) pa_nilD))) (pg_nameD (i := 6) G.nd) (sd_cons (sd_set 7 G.nd (pd_sub (pd_var 3) (pd_var 6))) (sd_cons (sd_asg (pd_tup (pa_consD (pd_mulI (pd_var 7) (pd_var 7)) (pa_consD (pd_mulI (pd_mulI pd_int (pd_var 6)) (pd_var 7)) (pa_consD (pd_mulI (pd_var 6) (pd_var 6)) pa_nilD)))) (pg_tupD G.calm (pgs_consD (pg_nameD (i := 8) G.nd) (pgs_consD (pg_nameD (i := 9) G.nd) (pgs_consD (pg_nameD (i := 10) G.nd) pgs_nilD))))) (sd_cons (sd_setLc 11 false [("_law_k", 12)] (.inl 12) G (pi_range1D T.z_range (pa_consD pd_int pa_nilD)) (fun _ _ _ _ _ => pg_name G.nd rfl (by first | exact Or.inl rfl | exact Or.inr rfl)) (fun _ _ _ _ _ => pts_nilD) (fun _ _ _ _ _ => (pd_add false (pd_add false (pd_mulI (pd_var 8) (pd_ix (pd_var 0) (pd_var 12))) (pd_mulI (pd_var 9) (pd_ix (pd_var 1) (pd_var 12)))) (pd_mulI (pd_var 10) (pd_ix (pd_var 2) (pd_var 12)))))) (sd_one (sd_exp (pd_append (pd_var 5) (pa_consD (pd_tupOf T.z_tuple (pd_lc false [("_law_top", 13)] (.inl 13) G (pi_seqD (pd_var 11)) (fun _ _ _ _ _ => pg_name G.nd rfl (by first | exact Or.inl rfl | exact Or.inr rfl)) (fun _ _ _ _ _ => pts_nilD) (fun _ _ _ _ _ => (pd_callN G.blk (O__law_number.mono (by decide)) (pa_consD (pd_var 13) (pa_consD (pd_mulI (pd_mulI (pd_mulI pd_int (pd_var 3)) (pd_var 3)) (pd_var 4)) pa_nilD)))))) pa_nilD)))))))) (sd_one (sd_ret (pd_var 5)))))
theorem ok__law_curve {P : Program} {w : World} {K : PySem.W.Frag} {mg : Str → Option Value} {base : Heap} {f : Addr} {fd : FuncData} (T : Tz K mg) (D : DefAt K mg "_law_curve" s__law_curve f fd) (sm : ∃ o, base.get? sysModules = some o) (O__law_number : Ok P w K mg base 1 "_law_number" ["_law_top", "_law_base"] sp__law_number) : Ok P w K mg base 2 "_law_curve" ["_law_first", "_law_off", "_law_second", "_law_many", "_law_base"] sp__law_curve := ok_mk D (fn__law_curve T D sm O__law_number) (fun _ _ _ _ _ _ us hl => match us, hl with | [_, _, _, _, _], _ => rfl)
/-! _law_polygon -/
abbrev s__law_polygon : Stmt := topS 43
theorem sc__law_polygon : FnScope ["_law_points", "_law_many", "_law_base", "_law_ring_here", "_law_found", "_law_k", "_law_one"] ["_law_points", "_law_many", "_law_base"] (defScope s__law_polygon) := ⟨rfl, rfl, rfl, by decide +kernel, rfl, by decide +kernel, by decide +kernel⟩
def b__law_polygon : DS := (sSeq (sAsg (dCall sp__law_ring [] (dCons (dVar 0) dNil)) (gN 3)) (sSeq (sAsg (dLst true dNil) (gN 4)) (sSeq (sFor (iEnumD (dCons (dVar 3) dNil)) (gTupD 2 (gConsD (gN 5) (gConsD (gN 6) gNilD))) (sIf (tTru (dOp fIx (dVar 6) (dC (.int 2)))) (sExp (dBM "list" fAppend (dVar 4) (dCons (dTup (dCons (dCall sp__law_number [] (dCons (dOp fIx (dVar 6) (dC (.int 0))) (dCons (dOp fMulI (dC (.int 2)) (dVar 2)) dNil))) (dCons (dCall sp__law_number [] (dCons (dOp fIx (dVar 6) (dC (.int 1))) (dCons (dOp fMulI (dC (.int 2)) (dVar 2)) dNil))) dNil))) dNil))) (sAsg (dOp (fAdd true) (dVar 4) (dCall sp__law_curve [] (dCons (dOp fIx (dVar 3) (dOp fSub (dVar 5) (dC (.int 1)))) (dCons (dVar 6) (dCons (dOp fIx (dVar 3) (dOp fMod (dOp (fAdd false) (dVar 5) (dC (.int 1))) (dB fLen (dCons (dVar 3) dNil)))) (dCons (dVar 1) (dCons (dVar 2) dNil))))))) (gN 4)))) (sRet (dVar 4)))))
def sp__law_polygon : DSp := spOf 7 3 b__law_polygon
theorem fn__law_polygon {P : Program} {w : World} {K : PySem.W.Frag} {mg : Str → Option Value} {base : Heap} {f : Addr} {fd : FuncData} (T : Tz K mg) (D : DefAt K mg "_law_polygon" s__law_polygon f fd) (sm : ∃ o, base.get? sysModules = some o) (O__law_curve : Ok P w K mg base 2 "_law_curve" ["_law_first", "_law_off", "_law_second", "_law_many", "_law_base"] sp__law_curve) (O__law_number : Ok P w K mg base 1 "_law_number" ["_law_top", "_law_base"] sp__law_number) (O__law_ring : Ok P w K mg base 1 "_law_ring" ["_law_points"] sp__law_ring) : FnG P w K mg base 3 f fd ["_law_points", "_law_many", "_law_base"] sp__law_polygon :=
  Fn_ok (k := 2) (b := b__law_polygon) D.F sc__law_polygon sm fun cdv A outer s H E G => (sd_cons (sd_set 3 G.nd (pd_callN G (O__law_ring.mono (by decide)) (pa_consD (pd_var 0) pa_nilD))) (sd_cons (sd_set 4 G.nd (pd_lst true pa_nilD)) (sd_cons (sd_for G (pi_enumD T.z_enumerate (pa_consD (pd_var 3) pa_nilD)) (pg_tupD G.calm (pgs_consD (pg_nameD (i := 5) G.nd) (pgs_consD (pg_nameD (i := 6) G.nd) pgs_nilD))) (sd_one (sd_if (pt_truD (pd_ix (pd_var 6) pd_int)) (sd_one (sd_exp (pd_append (pd_var 4) (pa_consD (pd_tup (pa_consD (pd_callN G (O__law_number.mono (by decide)) (pa_consD (pd_ix (pd_var 6) pd_int) (pa_consD (pd_mulI pd_int (pd_var 2)) pa_nilD))) (pa_consD (pd_callN G (O__law_number.mono (by decide)) (pa_consD (pd_ix (pd_var 6) pd_int) (pa_consD (pd_mulI pd_int (pd_var 2)) pa_nilD))) pa_nilD))) pa_nilD)))) (sd_one (sd_set 4 G.nd (pd_add true (pd_var 4) (pd_callN G (O__law_curve.mono (by decide)) (pa_consD (pd_ix (pd_var 3) (pd_sub (pd_var 5) pd_int)) (pa_consD (pd_var 6) (pa_consD (pd_ix (pd_var 3) (pd_mod (pd_add false (pd_var 5) pd_int) (pd_callB call_len sim_len T.z_len (pa_consD (pd_var 3) pa_nilD)))) (pa_consD (pd_var 1) (pa_consD (pd_var 2) pa_nilD)))))))))))) (sd_one (sd_ret (pd_var 4))))))
theorem ok__law_polygon {P : Program} {w : World} {K : PySem.W.Frag} {mg : Str → Option Value} {base : Heap} {f : Addr} {fd : FuncData} (T : Tz K mg) (D : DefAt K mg "_law_polygon" s__law_polygon f fd) (sm : ∃ o, base.get? sysModules = some o) (O__law_curve : Ok P w K mg base 2 "_law_curve" ["_law_first", "_law_off", "_law_second", "_law_many", "_law_base"] sp__law_curve) (O__law_number : Ok P w K mg base 1 "_law_number" ["_law_top", "_law_base"] sp__law_number) (O__law_ring : Ok P w K mg base 1 "_law_ring" ["_law_points"] sp__law_ring) : Ok P w K mg base 3 "_law_polygon" ["_law_points", "_law_many", "_law_base"] sp__law_polygon := ok_mk D (fn__law_polygon T D sm O__law_curve O__law_number O__law_ring) (fun _ _ _ _ _ _ us hl => match us, hl with | [_, _, _], _ => rfl)
/-! _law_right -/
abbrev s__law_right : Stmt := topS 44
theorem sc__law_right : FnScope ["_law_box_here", "_law_rounds_here", "_law_outline", "_law_base", "_law_spots", "_law_handed", "_law_stood", "_law_many", "_law_due", "_law_found", "_law_x", "_law_y", "_law_one", "_law_points"] ["_law_box_here", "_law_rounds_here", "_law_outline", "_law_base"] (defScope s__law_right) := ⟨rfl, rfl, rfl, by decide +kernel, rfl, by decide +kernel, by decide +kernel⟩
def b__law_right : DS := (sSeq (sAsg (dLc false (iSeq (dMet "places" [("Outline", sp_Outline_places)] (dVar 2) dNil)) (.inr [10, 11]) tYesD (dTup (dCons (dCall sp__law_number [] (dCons (dVar 10) (dCons (dVar 3) dNil))) (dCons (dCall sp__law_number [] (dCons (dVar 11) (dCons (dVar 3) dNil))) dNil))) [10, 11]) (gN 4)) (sSeq (sAsg (dLc false (iSeq (dLst false (dCons (dVar 4) (dCons (dMet "ends" [("Outline", sp_Outline_ends)] (dVar 2) dNil) (dCons (dMet "truths" [("Outline", sp_Outline_truths)] (dVar 2) dNil) dNil))))) (.inl 12) tYesD (dIf (tBl (dOp fEq (dCall sp__law_take [] (dCons (dVar 0) (dCons (dC (.int 2)) dNil))) (dC (.int 0)))) (dTupOf (dVar 12)) (dVar 12)) [12]) (gN 5)) (sSeq (sAsg (dB fRepr (dCons (dVar 5) dNil)) (gN 6)) (sSeq (sFor (iSeq (dLst false (dCons (dOp (fAdd false) (dCall sp__law_take [] (dCons (dVar 0) (dCons (dC (.int 4)) dNil))) (dC (.int 1))) (dCons (dC (.int 0)) (dCons (dOp (fAdd false) (dCall sp__law_take [] (dCons (dVar 0) (dCons (dC (.int 4)) dNil))) (dC (.int 1))) (dCons (dC (.int 2)) (dCons (dC (.int 1)) dNil))))))) (gN 7) (sSeq (sAsg (dLc false (iSeq (dVar 1)) (.inl 13) tYesD (dCall sp__law_polygon [] (dCons (dVar 13) (dCons (dOp fIx (dLst false (dCons (dVar 7) (dCons (dC (.int 2)) dNil))) (dB fInt (dCons (dOp fEq (dVar 7) (dC (.int 0))) dNil))) (dCons (dVar 3) dNil)))) [13]) (gN 8)) (sSeq (sIf (tBl (dOp fEq (dVar 7) (dC (.int 0)))) (sAsg (dCallC sp_polygons 3 0 [0, 1, 2, 3] [.int (2)] (dCons (dOp fIx (dVar 5) (dC (.int 0))) (dCons (dOp fIx (dVar 5) (dC (.int 1))) (dCons (dOp fIx (dVar 5) (dC (.int 2))) dNil))) dNil) (gN 9)) (sAsg (dCallC sp_polygons 0 4 [1, 0, 3, 2] [] dNil (dCons (dOp fIx (dVar 5) (dC (.int 1))) (dCons (dOp fIx (dVar 5) (dC (.int 0))) (dCons (dVar 7) (dCons (dOp fIx (dVar 5) (dC (.int 2))) dNil))))) (gN 9))) (sSeq (sIf (tOrD (tBl (dOp fNe (dB fRepr (dCons (dVar 9) dNil)) (dB fRepr (dCons (dVar 8) dNil)))) (tBl (dOp fNe (dB fRepr (dCons (dVar 5) dNil)) (dVar 6)))) (sRet (dC (.bl false))) sNil) (sSeq (sExp (dBM "list" fAppend (dOp fIx (dVar 9) (dC (.int 0))) (dCons (dC (.str "more")) dNil))) (sSeq (sIf (tBl (dOp fNe (dB fRepr (dCons (dSl false (dVar 9) (dPart (dC (.int 1))) dNo) dNil)) (dB fRepr (dCons (dSl false (dVar 8) (dPart (dC (.int 1))) dNo) dNil)))) (sRet (dC (.bl false))) sNil) (sExp (dBM0 "list" fClear (dVar 9))))))))) (sRet (dC (.bl true)))))))
def sp__law_right : DSp := spOf 14 4 b__law_right
theorem fn__law_right {P : Program} {w : World} {K : PySem.W.Frag} {mg : Str → Option Value} {base : Heap} {f : Addr} {fd : FuncData} (T : Tz K mg) (D : DefAt K mg "_law_right" s__law_right f fd) (sm : ∃ o, base.get? sysModules = some o) (C_polygons_0_ends_places_cuts_truths : OkC P w K mg base 9 "polygons" 0 ["ends", "places", "cuts", "truths"] [1, 0, 3, 2] [] sp_polygons) (C_polygons_3 : OkC P w K mg base 9 "polygons" 3 [] [0, 1, 2, 3] [.int (2)] sp_polygons) (M_Outline_ends : MeOk P w K mg base 1 "Outline" "ends" ["self"] sp_Outline_ends) (M_Outline_places : MeOk P w K mg base 2 "Outline" "places" ["self"] sp_Outline_places) (M_Outline_truths : MeOk P w K mg base 2 "Outline" "truths" ["self"] sp_Outline_truths) (O__law_number : Ok P w K mg base 1 "_law_number" ["_law_top", "_law_base"] sp__law_number) (O__law_polygon : Ok P w K mg base 3 "_law_polygon" ["_law_points", "_law_many", "_law_base"] sp__law_polygon) (O__law_take : Ok P w K mg base 1 "_law_take" ["_law_box_here", "_law_many"] sp__law_take) : FnG P w K mg base 10 f fd ["_law_box_here", "_law_rounds_here", "_law_outline", "_law_base"] sp__law_right :=
  Fn_ok (k := 9) (b := b__law_right) D.F sc__law_right sm fun cdv A outer s H E G => (sd_cons (sd_setLc 4 false [("_law_x", 10), ("_law_y", 11)] (.inr [10, 11]) G (pi_seqD (pd_met0 G (okms_cons (M_Outline_places.mono (by decide)) okms_nil) (pd_var 2))) (fun _ _ _ _ _ => pg_tup G.calm (pgs_cons (pg_name G.nd rfl (by first | exact Or.inl rfl | exact Or.inr rfl)) (pgs_cons (pg_name G.nd rfl (by first | exact Or.inl rfl | exact Or.inr rfl)) pgs_nil))) (fun _ _ _ _ _ => pts_nilD) (fun _ _ _ _ _ => (pd_tup (pa_consD (pd_callN G.blk (O__law_number.mono (by decide)) (pa_consD (pd_var 10) (pa_consD (pd_var 3) pa_nilD))) (pa_consD (pd_callN G.blk (O__law_number.mono (by decide)) (pa_consD (pd_var 11) (pa_consD (pd_var 3) pa_nilD))) pa_nilD))))) (sd_cons (sd_setLc 5 false [("_law_one", 12)] (.inl 12) G (pi_seqD (pd_lst false (pa_consD (pd_var 4) (pa_consD (pd_met0 G (okms_cons (M_Outline_ends.mono (by decide)) okms_nil) (pd_var 2)) (pa_consD (pd_met0 G (okms_cons (M_Outline_truths.mono (by decide)) okms_nil) (pd_var 2)) pa_nilD))))) (fun _ _ _ _ _ => pg_name G.nd rfl (by first | exact Or.inl rfl | exact Or.inr rfl)) (fun _ _ _ _ _ => pts_nilD) (fun _ _ _ _ _ => (pd_if (pt_eq G.blk (pd_callN G.blk (O__law_take.mono (by decide)) (pa_consD (pd_var 0) (pa_consD pd_int pa_nilD))) pd_int) (pd_tupOf T.z_tuple (pd_var 12)) (pd_var 12)))) (sd_cons (sd_set 6 G.nd (pd_callB (call_reprD G) sim_repr T.z_repr (pa_consD (pd_var 5) pa_nilD))) (sd_cons (sd_for G (pi_seqD (pd_lst false (pa_consD (pd_add false (pd_callN G (O__law_take.mono (by decide)) (pa_consD (pd_var 0) (pa_consD pd_int pa_nilD))) pd_int) (pa_consD pd_int (pa_consD (pd_add false (pd_callN G (O__law_take.mono (by decide)) (pa_consD (pd_var 0) (pa_consD pd_int pa_nilD))) pd_int) (pa_consD pd_int (pa_consD pd_int pa_nilD))))))) (pg_nameD (i := 7) G.nd) (sd_cons (sd_setLc 8 false [("_law_points", 13)] (.inl 13) G (pi_seqD (pd_var 1)) (fun _ _ _ _ _ => pg_name G.nd rfl (by first | exact Or.inl rfl | exact Or.inr rfl)) (fun _ _ _ _ _ => pts_nilD) (fun _ _ _ _ _ => (pd_callN G.blk (O__law_polygon.mono (by decide)) (pa_consD (pd_var 13) (pa_consD (pd_ix (pd_lst false (pa_consD (pd_var 7) (pa_consD pd_int pa_nilD))) (pd_callTy call_int1 sim_int T.z_int (pa_consD (pd_eq G.blk (pd_var 7) pd_int) pa_nilD))) (pa_consD (pd_var 3) pa_nilD)))))) (sd_cons (sd_if (pt_eq G (pd_var 7) pd_int) (sd_one (sd_set 9 G.nd (pd_callC G (C_polygons_3.mono (by decide)) (pa_consD (pd_ix (pd_var 5) pd_int) (pa_consD (pd_ix (pd_var 5) pd_int) (pa_consD (pd_ix (pd_var 5) pd_int) pa_nilD)))))) (sd_one (sd_set 9 G.nd (pd_callCK0 G (C_polygons_0_ends_places_cuts_truths.mono (by decide)) (pk_consD (pd_ix (pd_var 5) pd_int) (pk_consD (pd_ix (pd_var 5) pd_int) (pk_consD (pd_var 7) (pk_consD (pd_ix (pd_var 5) pd_int) pk_nilD)))))))) (sd_cons (sd_if (PW.pt (pw_orD (pt_ne G (pd_callB (call_reprD G) sim_repr T.z_repr (pa_consD (pd_var 9) pa_nilD)) (pd_callB (call_reprD G) sim_repr T.z_repr (pa_consD (pd_var 8) pa_nilD))) (pw_or1D (pt_ne G (pd_callB (call_reprD G) sim_repr T.z_repr (pa_consD (pd_var 5) pa_nilD)) (pd_var 6))))) (sd_one (sd_ret pd_bl)) sd_nil) (sd_cons (sd_exp (pd_append (pd_ix (pd_var 9) pd_int) (pa_consD pd_str pa_nilD))) (sd_cons (sd_if (pt_ne G (pd_callB (call_reprD G) sim_repr T.z_repr (pa_consD (pd_sl false (pd_var 9) (po_partD pd_int) po_noD) pa_nilD)) (pd_callB (call_reprD G) sim_repr T.z_repr (pa_consD (pd_sl false (pd_var 8) (po_partD pd_int) po_noD) pa_nilD))) (sd_one (sd_ret pd_bl)) sd_nil) (sd_one (sd_exp (pd_clear (pd_var 9)))))))))) (sd_one (sd_ret pd_bl))))))
theorem ok__law_right {P : Program} {w : World} {K : PySem.W.Frag} {mg : Str → Option Value} {base : Heap} {f : Addr} {fd : FuncData} (T : Tz K mg) (D : DefAt K mg "_law_right" s__law_right f fd) (sm : ∃ o, base.get? sysModules = some o) (C_polygons_0_ends_places_cuts_truths : OkC P w K mg base 9 "polygons" 0 ["ends", "places", "cuts", "truths"] [1, 0, 3, 2] [] sp_polygons) (C_polygons_3 : OkC P w K mg base 9 "polygons" 3 [] [0, 1, 2, 3] [.int (2)] sp_polygons) (M_Outline_ends : MeOk P w K mg base 1 "Outline" "ends" ["self"] sp_Outline_ends) (M_Outline_places : MeOk P w K mg base 2 "Outline" "places" ["self"] sp_Outline_places) (M_Outline_truths : MeOk P w K mg base 2 "Outline" "truths" ["self"] sp_Outline_truths) (O__law_number : Ok P w K mg base 1 "_law_number" ["_law_top", "_law_base"] sp__law_number) (O__law_polygon : Ok P w K mg base 3 "_law_polygon" ["_law_points", "_law_many", "_law_base"] sp__law_polygon) (O__law_take : Ok P w K mg base 1 "_law_take" ["_law_box_here", "_law_many"] sp__law_take) : Ok P w K mg base 10 "_law_right" ["_law_box_here", "_law_rounds_here", "_law_outline", "_law_base"] sp__law_right := ok_mk D (fn__law_right T D sm C_polygons_0_ends_places_cuts_truths C_polygons_3 M_Outline_ends M_Outline_places M_Outline_truths O__law_number O__law_polygon O__law_take) (fun _ _ _ _ _ _ us hl => match us, hl with | [_, _, _, _], _ => rfl)
/-! law -/
abbrev s_law : Stmt := topS 45
theorem sc_law : FnScope ["_law_script", "_law_k", "_law_box_here", "_law_base", "_law_rounds_here"] ["_law_script"] (defScope s_law) := ⟨rfl, rfl, rfl, by decide +kernel, rfl, by decide +kernel, by decide +kernel⟩
def b_law : DS := (sSeq (sFor (iRange1 (dCons (dB fMax2 (dCons (dC (.int 2)) (dCons (dB fMin2 (dCons (dC (.int 6)) (dCons (dB fLen (dCons (dVar 0) dNil)) dNil))) dNil))) dNil)) (gN 1) (sSeq (sAsg (dCall sp__law_box [] (dCons (dCall sp__law_cell [] (dCons (dVar 0) (dCons (dVar 1) dNil))) dNil)) (gN 2)) (sSeq (sAsg (dOp fIx (dLst false (dCons (dC (.int 1)) (dCons (dC (.int 1)) (dCons (dC (.int 2)) (dCons (dC (.int 3)) (dCons (dC (.int 64)) (dCons (dOp (fAdd false) (dC (.int 1)) (dCall sp__law_take [] (dCons (dVar 2) (dCons (dC (.int 40)) dNil)))) dNil))))))) (dCall sp__law_take [] (dCons (dVar 2) (dCons (dC (.int 6)) dNil)))) (gN 3)) (sSeq (sAsg (dCall sp__law_rounds [] (dCons (dVar 2) dNil)) (gN 4)) (sSeq (sIf (tBl (dOp fEq (dCall sp__law_take [] (dCons (dVar 2) (dCons (dC (.int 4)) dNil))) (dC (.int 0)))) (sAsg (dSl false (dOp (fAdd false) (dVar 4) (dLst false (dCons (dB (fListOf false) (dCons (dOp fIx (dVar 4) (dC (.int 0))) dNil)) dNil))) (dPart (dUn fNeg (dC (.int 4)))) dNo) (gN 4)) sNil) (sIf (tNotD (tTru (dCall sp__law_right [] (dCons (dVar 2) (dCons (dVar 4) (dCons (dMkO "Outline" false sp_Outline_init (dCons (dVar 4) dNil)) (dCons (dVar 3) dNil))))))) (sRet (dC (.bl false))) sNil)))))) (sRet (dC (.bl true))))
def sp_law : DSp := spOf 5 1 b_law
theorem fn_law {P : Program} {w : World} {K : PySem.W.Frag} {mg : Str → Option Value} {base : Heap} {f : Addr} {fd : FuncData} (T : Tz K mg) (D : DefAt K mg "law" s_law f fd) (sm : ∃ o, base.get? sysModules = some o) (K_Outline_init : MkOk P w K mg base 5 "Outline" ["self", "rounds"] sp_Outline_init) (O__law_box : Ok P w K mg base 1 "_law_box" ["_law_cell_here"] sp__law_box) (O__law_cell : Ok P w K mg base 1 "_law_cell" ["_law_script", "_law_k"] sp__law_cell) (O__law_right : Ok P w K mg base 10 "_law_right" ["_law_box_here", "_law_rounds_here", "_law_outline", "_law_base"] sp__law_right) (O__law_rounds : Ok P w K mg base 2 "_law_rounds" ["_law_box_here"] sp__law_rounds) (O__law_take : Ok P w K mg base 1 "_law_take" ["_law_box_here", "_law_many"] sp__law_take) : FnG P w K mg base 11 f fd ["_law_script"] sp_law :=
  Fn_ok (k := 10) (b := b_law) D.F sc_law sm fun cdv A outer s H E G => (sd_cons (sd_for G (pi_range1D T.z_range (pa_consD (pd_callB (call_max2 G.calm) sim_max2 T.z_max (pa_consD pd_int (pa_consD (pd_callB (call_min2 G.calm) sim_min2 T.z_min (pa_consD pd_int (pa_consD (pd_callB call_len sim_len T.z_len (pa_consD (pd_var 0) pa_nilD)) pa_nilD))) pa_nilD))) pa_nilD)) (pg_nameD (i := 1) G.nd) (sd_cons (sd_set 2 G.nd (pd_callN G (O__law_box.mono (by decide)) (pa_consD (pd_callN G (O__law_cell.mono (by decide)) (pa_consD (pd_var 0) (pa_consD (pd_var 1) pa_nilD))) pa_nilD))) (sd_cons (sd_set 3 G.nd (pd_ix (pd_lst false (pa_consD pd_int (pa_consD pd_int (pa_consD pd_int (pa_consD pd_int (pa_consD pd_int (pa_consD (pd_add false pd_int (pd_callN G (O__law_take.mono (by decide)) (pa_consD (pd_var 2) (pa_consD pd_int pa_nilD)))) pa_nilD))))))) (pd_callN G (O__law_take.mono (by decide)) (pa_consD (pd_var 2) (pa_consD pd_int pa_nilD))))) (sd_cons (sd_set 4 G.nd (pd_callN G (O__law_rounds.mono (by decide)) (pa_consD (pd_var 2) pa_nilD))) (sd_cons (sd_if (pt_eq G (pd_callN G (O__law_take.mono (by decide)) (pa_consD (pd_var 2) (pa_consD pd_int pa_nilD))) pd_int) (sd_one (sd_set 4 G.nd (pd_sl false (pd_add false (pd_var 4) (pd_lst false (pa_consD (pd_callTy call_list_of (sim_listOf false) T.z_list (pa_consD (pd_ix (pd_var 4) pd_int) pa_nilD)) pa_nilD))) (po_partD (pd_neg pd_int)) po_noD))) sd_nil) (sd_one (sd_if (pt_notD (pt_truD (pd_callN G (O__law_right.mono (by decide)) (pa_consD (pd_var 2) (pa_consD (pd_var 4) (pa_consD (pd_mkO false (G.mono (by decide)) K_Outline_init (pa_consD (pd_var 4) pa_nilD)) (pa_consD (pd_var 3) pa_nilD))))))) (sd_one (sd_ret pd_bl)) sd_nil))))))) (sd_one (sd_ret pd_bl)))
end L_k23

namespace L_k23
open PySem DL
local macro_rules | `(tactic| walk_at "st") => `(tactic| with_reducible first
  | refine s_seq ?_ | refine s_nil ?_ | refine s_asg ?_ | refine s_exp ?_ | refine s_ret ?_ | refine s_retN ?_ | refine s_brk ?_ | refine s_con ?_ | refine s_if ?_ | refine s_par ?_ | refine s_for ?_ | refine x_par ?_ | refine s_par3 ?_ | refine x_par3 ?_ | refine s_rz ?_ | refine s_rz3 rfl (by simp only [List.length_cons, List.length_nil]; decide) (by rfl) ?_ | refine s_try ?_ | refine e_xf (by with_unfolding_all rfl) (by decide +kernel) (by first | exact fld_1 | exact fld_2 (by decide +kernel) fld_1) ?_ | refine e_bm ?_ | refine isq_node ?_ | refine e_lcG ?_ | refine k_for ?_ | refine k_elt ?_ | refine i_en ?_ | refine en_N ?_ | refine e_tupOf ?_ | refine tp_L ?_ | refine tp_T ?_ | refine e_rev ?_ | refine rv_N ?_ | refine sl_N ?_ | refine s_aug (by with_unfolding_all rfl) ?_ | refine f_adII ?_ | refine f_ik3 ?_ | refine f_ic3 (by assumption) ?_ | refine f_se3 (by assumption) ?_ | refine r_1 ?_ | refine r_q (by omega) (by omega) ?_ | refine q_seq ?_ | refine q_S ?_ | refine q_L ?_ | refine q_K ?_ | refine q_T ?_ | refine p_nil ?_ | refine p_cons ?_
  | refine e_var (by with_unfolding_all rfl) ?_ | refine e_c ?_ | refine e_op ?_ | refine e_un ?_ | refine e_nil ?_ | refine e_cons ?_ | refine e_B ?_ | refine e_tup ?_ | refine e_lst ?_ | refine e_dct0 ?_ | refine e_sz (by simp only [List.length_cons, List.length_nil, sizeLine]; decide) ?_ | refine e_nwf ?_
  | refine e_and ?_ | refine e_or ?_ | refine e_not ?_ | refine e_if ?_ | refine e_chain ?_ | refine e_sl ?_ | refine e_no ?_ | refine e_part ?_ | refine e_call ?_ | refine e_callC ?_ | refine c_C rfl rfl (by with_unfolding_all simp only [pick, List.cons_append, List.nil_append, List.append_nil, List.getElem?_cons_zero, List.getElem?_cons_succ]; rfl) ?_ | refine e_m1 ?_ | refine e_m0 ?_ | refine e_lc ?_ | refine e_lcm ?_
  | refine t_yes ?_ | refine t_tru ?_ | refine t_bl ?_ | refine t_and ?_ | refine t_or ?_ | refine t_not ?_ | refine w_bl ?_ | refine w_non ?_ | refine w_int ?_ | refine x_bl ?_ | refine x_int ?_ | refine x_str ?_
  | refine i_T ?_ | refine i_F ?_ | refine i_not ?_ | refine i_dT (by first | assumption | omega | (simp only [List.length_cons, List.length_nil]; omega)) ?_ | refine i_dF (by first | assumption | omega | (simp only [List.length_cons, List.length_nil]; omega)) ?_
  | refine g_nil ?_ | refine g_cons ?_ | refine g_tup (by with_unfolding_all rfl) ?_ | refine g_sub ?_
  | refine f_adI ?_ | refine f_adT (by assumption) (by assumption) (by decide) fun _ => ?_ | refine f_slT (by assumption) (by decide) fun _ => ?_ | refine f_lnTx (by assumption) (by decide) fun _ => ?_ | refine f_adS (by unfold sizeLine; omega) ?_ | refine f_adL (by unfold sizeLine; simp only [List.length_append, List.length_cons, List.length_nil]; omega) ?_ | refine f_sub ?_ | refine f_mod (by first | decide | omega) ?_ | refine f_div (by first | exact cdiv64 (by first | decide | omega) (by first | decide | omega)) ?_ | refine f_mul (by first | exact cmul64 (by first | decide | omega) (by first | decide | omega)) ?_ | refine f_pow (cpow_of (by decide) (by decide) (by first | decide | omega)) ?_ | refine f_neg ?_
  | refine f_ltI ?_ | refine f_leI ?_ | refine f_gtI ?_ | refine f_geI ?_ | refine f_leS ?_ | refine f_ltS ?_ | refine f_eqI ?_ | refine f_neI ?_ | refine f_inS ?_ | refine f_intB ?_ | refine f_intI ?_ | refine f_abs ?_ | refine f_max ?_ | refine f_min ?_ | refine f_lnS (by first | assumption | (unfold sizeLine; omega)) ?_ | refine f_lnL ?_ | refine f_lnK ?_ | refine f_lnT ?_ | refine f_stI (by assumption) ?_ | refine f_slS (by first | assumption | (unfold sizeLine; omega)) ?_
  | refine f_ix0 ?_ | refine f_ix1 ?_ | refine f_ix2 ?_ | refine f_ik0 ?_ | refine f_ik1 ?_ | refine f_ik2 ?_ | refine f_ic0 (by assumption) ?_ | refine f_ic1 (by assumption) ?_ | refine f_ic2 (by assumption) ?_ | refine f_se0 (by assumption) ?_ | refine f_se2 (by assumption) ?_ | refine f_it0 ?_ | refine f_it1 ?_ | refine f_it2 ?_
  | refine g_n0 ?_ | refine g_n1 ?_ | refine g_n2 ?_ | refine g_n3 ?_ | refine g_n4 ?_ | refine g_n5 ?_ | refine g_n6 ?_ | refine g_n7 ?_ | refine g_n8 ?_ | refine g_n9 ?_ | refine g_n10 ?_ | refine g_n11 ?_ | refine g_set (by simp only [List.set_cons_zero, List.set_cons_succ]; rfl) ?_)

theorem take_spec {b m : Nat} {κ : Kap} {X : Str → List D → Kap → Prop} {Q : DQ} {w : Int} (hB : By b m κ) (hm : m ≤ 2 ^ 20) (w0 : 0 < w) (w1 : w < 2 ^ 64)
    (h : ∀ r κ', 0 ≤ r → r < w → By b (m + 1) κ' → Fr b κ κ' → Q (.int r) κ') : sp__law_take [.cell b, .int w] κ X Q := by
  obtain ⟨x, y, u, z, e, hy, hu, hz, hzm⟩ := hB
  (unfold sp__law_take; refine s_sp rfl ?_; simp only [startD, List.map_cons, List.map_nil, List.length_cons, List.length_nil, Nat.zero_add, Nat.reduceAdd, Nat.reduceSub, List.replicate, List.cons_append, List.nil_append]; unfold b__law_take)
  (repeat walk_at "st")
  refine i_d (fun h0 => ?_) fun h0 => ?_
  · have hw := fm_bd x w w0
    (repeat walk_at "st")
    exact h _ _ hw.1 hw.2 ⟨_, y, u, z, kset_same, hy, hu, hz, by omega⟩ Fr.box
  · have h1 : (y * (2 * (z + 1) + 3)).natAbs < 2 ^ (31 + 22) := mul_bd (by omega) (by omega)
    have h2 : (6151 * (z + 1)).natAbs < 2 ^ 34 := by omega
    have h3 : (6151 * (z + 1) * (z + 1)).natAbs < 2 ^ (34 + 21) := mul_bd h2 (by omega)
    have h4 : (u * (z + 1)).natAbs < 2 ^ (31 + 21) := mul_bd (by omega) (by omega)
    (repeat walk_at "st")
    generalize hq : Int.fmod _ 2147483647 = q
    have hq1 : 0 ≤ q ∧ q < 2147483647 := by rw [← hq]; exact fm_bd _ 2147483647 (by decide)
    (repeat walk_at "st")
    generalize Int.fdiv _ 16 = v
    have hw := fm_bd v w w0
    exact h _ _ hw.1 hw.2 ⟨_, y, u, z + 1, kset_same, hy, hu, by omega, by omega⟩ Fr.box
theorem box_spec {κ : Kap} {X : Str → List D → Kap → Prop} {Q : DQ} {c : Int}
    (h : ∀ b κ', κ b = none → By b 0 κ' → (∀ n c, κ n = some c → κ' n = some c) → Q (.cell b) κ') : sp__law_box [.int c] κ X Q := by
  (unfold sp__law_box; refine s_sp rfl ?_; simp only [startD, List.map_cons, List.map_nil, List.length_cons, List.length_nil, Nat.zero_add, Nat.reduceAdd, Nat.reduceSub, List.replicate, List.cons_append, List.nil_append]; unfold b__law_box)
  (repeat walk_at "st")
  refine e_nwt fun n hn => ?_
  have hw := fm_bd c 2147483629 (by decide)
  have hw2 := fm_bd c 2147483587 (by decide)
  refine h n _ hn ⟨_, _, _, 0, kset_same, ⟨hw.1, by omega⟩, ⟨hw2.1, by omega⟩, by decide, by decide⟩ fun m c e => ?_
  rw [kset_ne (kne e hn)]
  exact e
theorem cell_spec {κ : Kap} {X : Str → List D → Kap → Prop} {Q : DQ} {ns : List Int} {k : Nat} (hk : k < 100)
    (h : ∀ c : Int, Q (.int c) κ) : sp__law_cell [.node .klst (ns.map D.int), .int (k : Int)] κ X Q := by
  (unfold sp__law_cell; refine s_sp rfl ?_; simp only [startD, List.map_cons, List.map_nil, List.length_cons, List.length_nil, Nat.zero_add, Nat.reduceAdd, Nat.reduceSub, List.replicate, List.cons_append, List.nil_append]; unfold b__law_cell)
  (repeat walk_at "st")
  refine i_d (fun h0 => ?_) fun h0 => ?_
  · rw [List.length_map] at h0
    (repeat walk_at "st")
    have hk : k < ns.length := by omega
    exact ⟨_, at_nat (a := .int ns[k]) (by rw [List.getElem?_map, List.getElem?_eq_getElem hk]; rfl), h _⟩
  · (repeat walk_at "st")
    exact h _



theorem plain_int {κ : Kap} {X : Str → List D → Kap → Prop} {Q : DQ} {i : Int} (h : Q (.bl true) κ) : sp_is_plain [.int i] κ X Q := by
  (unfold sp_is_plain; refine s_sp rfl ?_; simp only [startD, List.map_cons, List.map_nil, List.length_cons, List.length_nil, Nat.zero_add, Nat.reduceAdd, Nat.reduceSub, List.replicate, List.cons_append, List.nil_append]; unfold b_is_plain)
  (repeat walk_at "st")
  refine isi_in _ true rfl (by decide +kernel) ?_
  (repeat walk_at "st")
  refine isi_in _ false rfl (by decide +kernel) ?_
  (repeat walk_at "st")
  exact h
theorem plain_tup {κ : Kap} {X : Str → List D → Kap → Prop} {Q : DQ} {xs : List D} (h : Q (.bl false) κ) : sp_is_plain [.node .tup xs] κ X Q := by
  (unfold sp_is_plain; refine s_sp rfl ?_; simp only [startD, List.map_cons, List.map_nil, List.length_cons, List.length_nil, Nat.zero_add, Nat.reduceAdd, Nat.reduceSub, List.replicate, List.cons_append, List.nil_append]; unfold b_is_plain)
  (repeat walk_at "st")
  refine isi_in _ false rfl (by decide +kernel) ?_
  (repeat walk_at "st")
  exact h
theorem common_part_spec {κ : Kap} {X : Str → List D → Kap → Prop} {Q : DQ} {u l : Int} (h : Q (.int (Int.gcd u l : Int)) κ) : sp_common_part [.int u, .int l] κ X Q := by
  (unfold sp_common_part; refine s_sp rfl ?_; simp only [startD, List.map_cons, List.map_nil, List.length_cons, List.length_nil, Nat.zero_add, Nat.reduceAdd, Nat.reduceSub, List.replicate, List.cons_append, List.nil_append]; unfold b_common_part)
  (repeat walk_at "st")
  refine s_while (fun m δ κ' => κ' = κ ∧ ∃ x y : Nat, δ = [some (.int x), some (.int y)] ∧ Nat.gcd x y = Int.gcd u l ∧ y = m) ⟨_, rfl, u.natAbs, l.natAbs, by rw [abs_nat, abs_nat]; rfl, rfl, rfl⟩ ?_
  rintro m δ κ' L hL ⟨rfl, x, y, rfl, hg, rfl⟩
  (repeat walk_at "st")
  refine i_d (fun h0 => ?_) fun h0 => ?_
  · (repeat walk_at "st")
    have hy : y = 0 := by omega
    subst hy
    rw [Nat.gcd_zero_right] at hg
    rw [hg]
    exact h
  · (repeat walk_at "st")
    have hy : y ≠ 0 := by omega
    refine hL (x % y) _ _ (Nat.mod_lt _ (by omega)) ⟨rfl, y, x % y, ?_, by rw [gcd_step hy]; exact hg, rfl⟩
    rw [← Int.ofNat_fmod]
    rfl
theorem is_part_pair {κ : Kap} {X : Str → List D → Kap → Prop} {Q : DQ} {a b : Int} (n : NOk a b) (hb : b ≠ 1) (h : Q (.bl true) κ) : sp_is_part [.node .tup [.int a, .int b]] κ X Q := by
  have n1 := n.1
  (unfold sp_is_part; refine s_sp rfl ?_; simp only [startD, List.map_cons, List.map_nil, List.length_cons, List.length_nil, Nat.zero_add, Nat.reduceAdd, Nat.reduceSub, List.replicate, List.cons_append, List.nil_append]; unfold b_is_part)
  (repeat walk_at "st")
  refine isi_in _ true rfl (by decide +kernel) ?_
  (repeat walk_at "st")
  refine plain_int ?_
  (repeat walk_at "st")
  refine plain_int ?_
  (repeat walk_at "st")
  refine common_part_spec ?_
  rw [n.2]
  (repeat walk_at "st")
  rw [decide_eq_true (by rfl)]
  exact h
theorem reckoned_spec {κ : Kap} {X : Str → List D → Kap → Prop} {Q : DQ} {u l : Int} (hl : l ≠ 0) (hb : l.natAbs < 2 ^ 8000) (h : Q (nb (rtn u l) (rtd u l)) κ) : sp_reckoned [.int u, .int l] κ X Q := by
  have hg := Int.gcd_pos_of_ne_zero_right u hl
  have hgl := Int.gcd_le_natAbs_right u hl
  have hc : ∀ c : Int, c = cpt u l → Q (if decide (l.fdiv c = 1) = true then .int (u.fdiv c) else .node .tup [.int (u.fdiv c), .int (l.fdiv c)]) κ := by
    rintro c rfl
    have : nb (rtn u l) (rtd u l) = if decide (l.fdiv (cpt u l) = 1) = true then .int (u.fdiv (cpt u l)) else .node .tup [.int (u.fdiv (cpt u l)), .int (l.fdiv (cpt u l))] := by
      unfold nb rtn rtd
      by_cases h : l.fdiv (cpt u l) = 1
      · rw [if_pos h, if_pos (decide_eq_true h)]
      · rw [if_neg h, if_neg (by rw [decide_eq_false h]; decide)]
    rw [← this]
    exact h
  (unfold sp_reckoned; refine s_sp rfl ?_; simp only [startD, List.map_cons, List.map_nil, List.length_cons, List.length_nil, Nat.zero_add, Nat.reduceAdd, Nat.reduceSub, List.replicate, List.cons_append, List.nil_append]; unfold b_reckoned)
  (repeat walk_at "st")
  refine common_part_spec ?_
  (repeat walk_at "st")
  refine i_d (fun h0 => ?_) fun h0 => ?_
  · have hc := hc (0 - (Int.gcd u l : Int)) (by unfold cpt; rw [if_pos h0])
    generalize hcc : 0 - (Int.gcd u l : Int) = c at hc
    have hc0 : c ≠ 0 := by omega
    have hd : ∀ i, CDivD i c := fun i => cdiv_of 8000 hc0 (by omega) (by decide)
    (repeat walk_at "st")
    rw [hcc]
    refine f_div (hd _) ?_
    (repeat walk_at "st")
    refine f_div (hd _) ?_
    (repeat walk_at "st")
    refine i_d (fun h1 => ?_) fun h1 => ?_
    · rw [if_pos (decide_eq_true h1)] at hc
      (repeat walk_at "st")
      exact hc
    · rw [if_neg (by rw [decide_eq_false h1]; decide)] at hc
      (repeat walk_at "st")
      exact hc
  · have hc := hc (Int.gcd u l : Int) (by unfold cpt; rw [if_neg h0])
    generalize (Int.gcd u l) = c at hc hg hgl
    have hc0 : (c : Int) ≠ 0 := by omega
    have hd : ∀ i, CDivD i (c : Int) := fun i => cdiv_of 8000 hc0 (by omega) (by decide)
    (repeat walk_at "st")
    refine f_div (hd _) ?_
    (repeat walk_at "st")
    refine f_div (hd _) ?_
    (repeat walk_at "st")
    refine i_d (fun h1 => ?_) fun h1 => ?_
    · rw [if_pos (decide_eq_true h1)] at hc
      (repeat walk_at "st")
      exact hc
    · rw [if_neg (by rw [decide_eq_false h1]; decide)] at hc
      (repeat walk_at "st")
      exact hc
theorem pair_of_spec {κ : Kap} {X : Str → List D → Kap → Prop} {Q : DQ} {a b : Int} (n : NOk a b) (h : Q (.node .tup [.int a, .int b]) κ) : sp_pair_of [nb a b] κ X Q := by
  by_cases hb : b = 1
  · subst hb
    rw [nb_1]
    (unfold sp_pair_of; refine s_sp rfl ?_; simp only [startD, List.map_cons, List.map_nil, List.length_cons, List.length_nil, Nat.zero_add, Nat.reduceAdd, Nat.reduceSub, List.replicate, List.cons_append, List.nil_append]; unfold b_pair_of)
    (repeat walk_at "st")
    refine plain_int ?_
    (repeat walk_at "st")
    exact h
  · rw [nb_p hb]
    (unfold sp_pair_of; refine s_sp rfl ?_; simp only [startD, List.map_cons, List.map_nil, List.length_cons, List.length_nil, Nat.zero_add, Nat.reduceAdd, Nat.reduceSub, List.replicate, List.cons_append, List.nil_append]; unfold b_pair_of)
    (repeat walk_at "st")
    refine plain_tup ?_
    (repeat walk_at "st")
    refine is_part_pair n hb ?_
    (repeat walk_at "st")
    exact h



section
variable {κ : Kap} {X : Str → List D → Kap → Prop} {Q : DQ} {k : Nat} {a b c d : Int}
theorem plus_spec (n : Nd k a b) (n' : Nd k c d) (hk : k ≤ 3000) (h : Q (nb (pN a b c d) (pD a b c d)) κ) : sp_plus [nb a b, nb c d] κ X Q := by
  have hm1 : L2.CMulW a d := cmul_of k k n.tb n'.bb (by omega)
  have hm2 : L2.CMulW c b := cmul_of k k n'.tb n.bb (by omega)
  have hm3 : L2.CMulW b d := cmul_of k k n.bb n'.bb (by omega)
  (unfold sp_plus; refine s_sp rfl ?_; simp only [startD, List.map_cons, List.map_nil, List.length_cons, List.length_nil, Nat.zero_add, Nat.reduceAdd, Nat.reduceSub, List.replicate, List.cons_append, List.nil_append]; unfold b_plus)
  (repeat walk_at "st")
  refine pair_of_spec n.ok ?_
  (repeat walk_at "st")
  refine pair_of_spec n'.ok ?_
  (repeat walk_at "st")
  refine f_mul hm1 ?_
  (repeat walk_at "st")
  refine f_mul hm2 ?_
  (repeat walk_at "st")
  refine f_mul hm3 ?_
  (repeat walk_at "st")
  exact reckoned_spec (n.bd0 n') (bd_mono (mul_bd n.bb n'.bb) (by omega)) h
theorem times_spec (n : Nd k a b) (n' : Nd k c d) (hk : k ≤ 3000) (h : Q (nb (tN a b c d) (tD a b c d)) κ) : sp_times [nb a b, nb c d] κ X Q := by
  have hm1 : L2.CMulW a c := cmul_of k k n.tb n'.tb (by omega)
  have hm3 : L2.CMulW b d := cmul_of k k n.bb n'.bb (by omega)
  (unfold sp_times; refine s_sp rfl ?_; simp only [startD, List.map_cons, List.map_nil, List.length_cons, List.length_nil, Nat.zero_add, Nat.reduceAdd, Nat.reduceSub, List.replicate, List.cons_append, List.nil_append]; unfold b_times)
  (repeat walk_at "st")
  refine pair_of_spec n.ok ?_
  (repeat walk_at "st")
  refine pair_of_spec n'.ok ?_
  (repeat walk_at "st")
  refine f_mul hm1 ?_
  (repeat walk_at "st")
  refine f_mul hm3 ?_
  (repeat walk_at "st")
  exact reckoned_spec (n.bd0 n') (bd_mono (mul_bd n.bb n'.bb) (by omega)) h
theorem fraction_spec {u l : Int} (hl : l ≠ 0) (hb : l.natAbs < 2 ^ 8000) (h : Q (nb (rtn u l) (rtd u l)) κ) : sp_fraction [.int u, .int l] κ X Q := by
  (unfold sp_fraction; refine s_sp rfl ?_; simp only [startD, List.map_cons, List.map_nil, List.length_cons, List.length_nil, Nat.zero_add, Nat.reduceAdd, Nat.reduceSub, List.replicate, List.cons_append, List.nil_append]; unfold b_fraction)
  (repeat walk_at "st")
  refine dl_ix (fun i δ κ' => κ' = κ ∧ ∃ t, δ = [some (.int u), some (.int l), t]) ?_ ?_ ⟨rfl, _, rfl⟩
  · rintro δ κ' ⟨rfl, t, rfl⟩
    refine ⟨trivial, ?_⟩
    (repeat walk_at "st")
    exact reckoned_spec hl hb h
  · rintro i e δ κ' L hd hL ⟨rfl, t, rfl⟩
    refine ⟨trivial, ?_⟩
    have he : ∃ j : Int, e = .int j := by
      have := List.mem_of_getElem? hd
      simp only [List.mem_cons, List.not_mem_nil, or_false] at this
      rcases this with rfl | rfl
      · exact ⟨_, rfl⟩
      · exact ⟨_, rfl⟩
    obtain ⟨j, rfl⟩ := he
    (repeat walk_at "st")
    refine plain_int ?_
    (repeat walk_at "st")
    exact hL _ _ ⟨rfl, _, rfl⟩
end



/-- the types of things -/
def tOther (t : String) : Prop := t = "NoneType" ∨ t = "bool" ∨ t = "str" ∨ t = "list" ∨ t = "dict"
section
variable {κ : Kap} {X : Str → List D → Kap → Prop} {Q : DQ}
theorem plain_no {d : D} {t : String} (ht : tyK d κ = some (.b t)) (ho : tOther t ∨ t = "tuple") (h : Q (.bl false) κ) : sp_is_plain [d] κ X Q := by
  (unfold sp_is_plain; refine s_sp rfl ?_; simp only [startD, List.map_cons, List.map_nil, List.length_cons, List.length_nil, Nat.zero_add, Nat.reduceAdd, Nat.reduceSub, List.replicate, List.cons_append, List.nil_append]; unfold b_is_plain)
  (repeat walk_at "st")
  rcases ho with (rfl | rfl | rfl | rfl | rfl) | rfl
  · refine isi_in _ false ht (by decide +kernel) ?_
    (repeat walk_at "st")
    exact h
  · refine isi_in _ true ht (by decide +kernel) ?_
    (repeat walk_at "st")
    refine isi_in _ true ht (by decide +kernel) ?_
    (repeat walk_at "st")
    exact h
  · refine isi_in _ false ht (by decide +kernel) ?_
    (repeat walk_at "st")
    exact h
  · refine isi_in _ false ht (by decide +kernel) ?_
    (repeat walk_at "st")
    exact h
  · refine isi_in _ false ht (by decide +kernel) ?_
    (repeat walk_at "st")
    exact h
  · refine isi_in _ false ht (by decide +kernel) ?_
    (repeat walk_at "st")
    exact h
theorem part_no {d : D} {t : String} (ht : tyK d κ = some (.b t)) (ho : tOther t ∨ t = "int") (h : Q (.bl false) κ) : sp_is_part [d] κ X Q := by
  (unfold sp_is_part; refine s_sp rfl ?_; simp only [startD, List.map_cons, List.map_nil, List.length_cons, List.length_nil, Nat.zero_add, Nat.reduceAdd, Nat.reduceSub, List.replicate, List.cons_append, List.nil_append]; unfold b_is_part)
  (repeat walk_at "st")
  rcases ho with (rfl | rfl | rfl | rfl | rfl) | rfl
  all_goals
    refine isi_in _ false ht (by decide +kernel) ?_
    (repeat walk_at "st")
    exact h
theorem part_len {xs : List D} (hl : xs.length ≠ 2) (h : Q (.bl false) κ) : sp_is_part [.node .tup xs] κ X Q := by
  (unfold sp_is_part; refine s_sp rfl ?_; simp only [startD, List.map_cons, List.map_nil, List.length_cons, List.length_nil, Nat.zero_add, Nat.reduceAdd, Nat.reduceSub, List.replicate, List.cons_append, List.nil_append]; unfold b_is_part)
  (repeat walk_at "st")
  refine isi_in _ true rfl (by decide +kernel) ?_
  (repeat walk_at "st")
  exact h
theorem part_ints {a b : Int} (hb : b ≤ 1 ∨ Int.gcd a b ≠ 1) (h : Q (.bl false) κ) : sp_is_part [.node .tup [.int a, .int b]] κ X Q := by
  (unfold sp_is_part; refine s_sp rfl ?_; simp only [startD, List.map_cons, List.map_nil, List.length_cons, List.length_nil, Nat.zero_add, Nat.reduceAdd, Nat.reduceSub, List.replicate, List.cons_append, List.nil_append]; unfold b_is_part)
  (repeat walk_at "st")
  refine isi_in _ true rfl (by decide +kernel) ?_
  (repeat walk_at "st")
  refine plain_int ?_
  (repeat walk_at "st")
  refine plain_int ?_
  (repeat walk_at "st")
  refine i_d (fun h1 => ?_) fun h1 => ?_
  · (repeat walk_at "st")
    refine common_part_spec ?_
    (repeat walk_at "st")
    rw [decide_eq_false (by omega)]
    exact h
  · rw [decide_eq_false h1]
    exact h
/-- no number -/
inductive NoNum (κ : Kap) : D → Prop
  | ty {d : D} {t : String} (h : tyK d κ = some (.b t)) (o : tOther t) : NoNum κ d
  | len {xs : List D} (h : xs.length ≠ 2) : NoNum κ (.node .tup xs)
  | prs {a b : Int} (h : b ≤ 1 ∨ Int.gcd a b ≠ 1) : NoNum κ (.node .tup [.int a, .int b])
theorem whole_no {d : D} {t : String} {lo hi : Int} (ht : tyK d κ = some (.b t)) (ho : tOther t ∨ t = "tuple") (h : Q (.bl false) κ) : sp_is_whole [d, .int lo, .int hi] κ X Q := by
  (unfold sp_is_whole; refine s_sp rfl ?_; simp only [startD, List.map_cons, List.map_nil, List.length_cons, List.length_nil, Nat.zero_add, Nat.reduceAdd, Nat.reduceSub, List.replicate, List.cons_append, List.nil_append]; unfold b_is_whole)
  (repeat walk_at "st")
  refine plain_no ht ho ?_
  (repeat walk_at "st")
  exact h
theorem whole_int {i lo hi : Int} (h : Q (.bl (decide (lo ≤ i ∧ i ≤ hi))) κ) : sp_is_whole [.int i, .int lo, .int hi] κ X Q := by
  (unfold sp_is_whole; refine s_sp rfl ?_; simp only [startD, List.map_cons, List.map_nil, List.length_cons, List.length_nil, Nat.zero_add, Nat.reduceAdd, Nat.reduceSub, List.replicate, List.cons_append, List.nil_append]; unfold b_is_whole)
  (repeat walk_at "st")
  refine plain_int ?_
  (repeat walk_at "st")
  refine i_d (fun h1 => ?_) fun h1 => ?_
  · (repeat walk_at "st")
    rw [show decide (i ≤ hi) = decide (lo ≤ i ∧ i ≤ hi) from decide_eq_decide.mpr ⟨fun z => ⟨h1, z⟩, fun z => z.2⟩]
    exact h
  · (repeat walk_at "st")
    rw [decide_eq_false (fun z => h1 z.1)] at h
    exact h
/-- no whole number from lo to hi -/
inductive NoWhole (κ : Kap) (lo hi : Int) : D → Prop
  | ty {d : D} {t : String} (h : tyK d κ = some (.b t)) (o : tOther t ∨ t = "tuple") : NoWhole κ lo hi d
  | int {i : Int} (h : i < lo ∨ hi < i) : NoWhole κ lo hi (.int i)
theorem whole_bad {d : D} {lo hi : Int} (n : NoWhole κ lo hi d) (h : Q (.bl false) κ) : sp_is_whole [d, .int lo, .int hi] κ X Q := by
  cases n with
  | ty ht o => exact whole_no ht o h
  | int hi =>
    refine whole_int ?_
    rw [decide_eq_false (by omega)]
    exact h
end



section
variable {κ : Kap} {X : Str → List D → Kap → Prop} {Q : DQ} {k j : Nat} {p q : Rat}
theorem pair_q (h : Q (.node .tup [.int q.num, .int q.den]) κ) : sp_pair_of [nq q] κ X Q := pair_of_spec (nq_ok q) h
theorem reckoned_q {u l : Int} (hl : l ≠ 0) (hb : l.natAbs < 2 ^ 8000) (h : Q (nq (Rat.divInt u l)) κ) : sp_reckoned [.int u, .int l] κ X Q := reckoned_spec hl hb (by rw [nb_rt hl]; exact h)
theorem plus_q (n : Sz k p) (n' : Sz j q) (hk : k + j ≤ 8000) (h : Q (nq (p + q)) κ) : sp_plus [nq p, nq q] κ X Q := by
  have hm1 : L2.CMulW p.num q.den := cmul_of k j n.1 n'.db (by omega)
  have hm2 : L2.CMulW q.num p.den := cmul_of j k n'.1 n.db (by omega)
  have hm3 : L2.CMulW (p.den : Int) q.den := cmul_of k j n.db n'.db (by omega)
  (unfold sp_plus; refine s_sp rfl ?_; simp only [startD, List.map_cons, List.map_nil, List.length_cons, List.length_nil, Nat.zero_add, Nat.reduceAdd, Nat.reduceSub, List.replicate, List.cons_append, List.nil_append]; unfold b_plus)
  (repeat walk_at "st")
  refine pair_q ?_
  (repeat walk_at "st")
  refine pair_q ?_
  (repeat walk_at "st")
  refine f_mul hm1 ?_
  (repeat walk_at "st")
  refine f_mul hm2 ?_
  (repeat walk_at "st")
  refine f_mul hm3 ?_
  (repeat walk_at "st")
  refine reckoned_q (Sz.dd p q) (bd_mono (mul_bd n.db n'.db) (by omega)) ?_
  rw [← q_add]
  exact h
theorem times_q (n : Sz k p) (n' : Sz j q) (hk : k + j ≤ 8000) (h : Q (nq (p * q)) κ) : sp_times [nq p, nq q] κ X Q := by
  have hm1 : L2.CMulW p.num q.num := cmul_of k j n.1 n'.1 (by omega)
  have hm3 : L2.CMulW (p.den : Int) q.den := cmul_of k j n.db n'.db (by omega)
  (unfold sp_times; refine s_sp rfl ?_; simp only [startD, List.map_cons, List.map_nil, List.length_cons, List.length_nil, Nat.zero_add, Nat.reduceAdd, Nat.reduceSub, List.replicate, List.cons_append, List.nil_append]; unfold b_times)
  (repeat walk_at "st")
  refine pair_q ?_
  (repeat walk_at "st")
  refine pair_q ?_
  (repeat walk_at "st")
  refine f_mul hm1 ?_
  (repeat walk_at "st")
  refine f_mul hm3 ?_
  (repeat walk_at "st")
  refine reckoned_q (Sz.dd p q) (bd_mono (mul_bd n.db n'.db) (by omega)) ?_
  rw [← q_mul]
  exact h
end



abbrev Q2 := Rat × Rat
abbrev Pt := Int × Int
/-! ### rounds of places, on or off -/
def mixQ (p q : Q2) (s t : Rat) : Q2 := (p.1 * t + q.1 * s, p.2 * t + q.2 * s)
def mdQ (p q : Q2) : Q2 := mixQ p q (Rat.divInt 1 2) (Rat.divInt 1 2)
/-- with what is understood; p is the one ahead -/
def fl {α : Type} (md : α → α → α) (p : α × Bool) : List (α × Bool) → List (α × Bool)
  | [] => []
  | r :: rs => (if r.2 = false ∧ p.2 = false then [(md p.1 r.1, true)] else []) ++ r :: fl md r rs
/-- with what is understood behind; f is the first one -/
def lr {α : Type} (md : α → α → α) (f : α × Bool) : List (α × Bool) → List (α × Bool)
  | [] => []
  | r :: rs => r :: ((if r.2 = false ∧ (rs.headD f).2 = false then [(md r.1 (rs.headD f).1, true)] else []) ++ lr md f rs)
def rotG {α : Type} (xs : List (α × Bool)) : List (α × Bool) := match xs with
  | [] => []
  | r :: rs => if r.2 = true then r :: rs else (r :: rs).drop rs.length ++ (r :: rs).take rs.length
def filR (d : Q2 × Bool) (rows : List (Q2 × Bool)) : List (Q2 × Bool) := fl mdQ (rows.getLastD d) rows
theorem lastD_cons {α : Type} (r d : α) (rs : List α) : (r :: rs).getLastD d = rs.getLastD r := by
  cases rs <;> rfl
theorem rotG_on {α : Type} {r : α × Bool} {rs : List (α × Bool)} (h : r.2 = true) : rotG (r :: rs) = r :: rs := if_pos h
theorem rotG_off {α : Type} {r : α × Bool} {rs : List (α × Bool)} (h : r.2 = false) : rotG (r :: rs) = (r :: rs).drop rs.length ++ (r :: rs).take rs.length := if_neg (by rw [h]; decide)
theorem lr_fl {α : Type} (md : α → α → α) (f : α × Bool) : ∀ (rs : List (α × Bool)) (r : α × Bool), lr md f (r :: rs) = r :: (fl md r rs ++ (if (rs.getLastD r).2 = false ∧ f.2 = false then [(md (rs.getLastD r).1 f.1, true)] else []))
  | [], r => by
    show r :: ((if r.2 = false ∧ f.2 = false then [(md r.1 f.1, true)] else []) ++ []) = r :: ([] ++ _)
    rw [List.append_nil, List.nil_append]
    rfl
  | x :: rs, r => by
    show r :: ((if r.2 = false ∧ x.2 = false then [(md r.1 x.1, true)] else []) ++ lr md f (x :: rs)) = r :: (((if x.2 = false ∧ r.2 = false then [(md r.1 x.1, true)] else []) ++ x :: fl md x rs) ++ _)
    rw [lr_fl md f rs x]
    have e : (if r.2 = false ∧ x.2 = false then [(md r.1 x.1, true)] else []) = (if x.2 = false ∧ r.2 = false then [(md r.1 x.1, true)] else []) := by
      congr 1
      exact propext ⟨fun h => ⟨h.2, h.1⟩, fun h => ⟨h.2, h.1⟩⟩
    rw [e, lastD_cons, List.append_assoc, List.cons_append]
/-- begun ahead or behind, the same ring -/
theorem ring_same {α : Type} (md : α → α → α) (d : α × Bool) (rows : List (α × Bool)) : rotG (lr md (rows.headD d) rows) = rotG (fl md (rows.getLastD d) rows) := by
  cases rows with
  | nil => rfl
  | cons r rs =>
    rw [lastD_cons]
    show rotG (lr md r (r :: rs)) = rotG ((if r.2 = false ∧ (rs.getLastD r).2 = false then [(md (rs.getLastD r).1 r.1, true)] else []) ++ r :: fl md r rs)
    rw [lr_fl]
    by_cases h : (rs.getLastD r).2 = false ∧ r.2 = false
    · rw [if_pos h, if_pos ⟨h.2, h.1⟩]
      rw [rotG_off h.2, show (fl md r rs ++ [(md (rs.getLastD r).1 r.1, true)]).length = (r :: fl md r rs).length by simp]
      rw [← List.cons_append, List.drop_left, List.take_left]
      exact (rotG_on rfl).symm
    · rw [if_neg h, if_neg fun z => h ⟨z.2, z.1⟩, List.append_nil, List.nil_append]
theorem rotG_map {α β : Type} (g : α → β) (xs : List (α × Bool)) : rotG (xs.map fun r => (g r.1, r.2)) = (rotG xs).map fun r => (g r.1, r.2) := by
  cases xs with
  | nil => rfl
  | cons r rs =>
    by_cases h : r.2 = true
    · rw [rotG_on h]
      exact rotG_on h
    · have h' : r.2 = false := by simpa using h
      rw [rotG_off h', List.map_append, List.map_drop, List.map_take]
      have := rotG_off (α := β) (r := (g r.1, r.2)) (rs := rs.map fun r => (g r.1, r.2)) h'
      rw [List.length_map] at this
      exact this
/-- the law's ring, of whole numbers, twice as great -/
def lri (f : Pt × Bool) : List (Pt × Bool) → List (Pt × Bool)
  | [] => []
  | r :: rs => ((2 * r.1.1, 2 * r.1.2), r.2) :: ((if r.2 = false ∧ (rs.headD f).2 = false then [((r.1.1 + (rs.headD f).1.1, r.1.2 + (rs.headD f).1.2), true)] else []) ++ lri f rs)
def vI (b : Int) (p : Pt) : Q2 := (Rat.divInt p.1 (2 * b), Rat.divInt p.2 (2 * b))
def v1 (b : Int) (p : Pt) : Q2 := (Rat.divInt p.1 b, Rat.divInt p.2 b)
theorem div2 {b x : Int} (hb : 0 < b) : Rat.divInt (2 * x) (2 * b) = Rat.divInt x b := by
  have h2 : (2 * b) ≠ 0 := by omega
  rw [Rat.divInt_eq_divInt_iff h2 (by omega)]
  grind
theorem divhalf {b x y : Int} (hb : 0 < b) : Rat.divInt (x + y) (2 * b) = Rat.divInt x b * Rat.divInt 1 2 + Rat.divInt y b * Rat.divInt 1 2 := by
  rw [Rat.divInt_mul_divInt, Rat.divInt_mul_divInt, Rat.divInt_add_divInt _ _ (by omega) (by omega), Rat.divInt_eq_divInt_iff (by omega) (Int.mul_ne_zero (by omega) (by omega))]
  grind
theorem lri_map {b : Int} (hb : 0 < b) (f : Pt × Bool) : ∀ rs : List (Pt × Bool), (lri f rs).map (fun r => (vI b r.1, r.2)) = lr mdQ (v1 b f.1, f.2) (rs.map fun r => (v1 b r.1, r.2))
  | [] => rfl
  | r :: rs => by
    have e1 : (rs.map fun r => (v1 b r.1, r.2)).headD (v1 b f.1, f.2) = (v1 b (rs.headD f).1, (rs.headD f).2) := by cases rs <;> rfl
    show _ :: List.map _ ((if r.2 = false ∧ (rs.headD f).2 = false then [((r.1.1 + (rs.headD f).1.1, r.1.2 + (rs.headD f).1.2), true)] else []) ++ lri f rs) = _ :: ((if r.2 = false ∧ ((rs.map fun r => (v1 b r.1, r.2)).headD (v1 b f.1, f.2)).2 = false then [(mdQ (v1 b r.1) ((rs.map fun r => (v1 b r.1, r.2)).headD (v1 b f.1, f.2)).1, true)] else []) ++ lr mdQ (v1 b f.1, f.2) (rs.map fun r => (v1 b r.1, r.2)))
    rw [e1, List.map_append, lri_map hb f rs]
    have e2 : vI b (2 * r.1.1, 2 * r.1.2) = v1 b r.1 := by
      show (Rat.divInt (2 * r.1.1) (2 * b), Rat.divInt (2 * r.1.2) (2 * b)) = _
      rw [div2 hb, div2 hb]
      rfl
    dsimp only
    rw [e2]
    congr 2
    by_cases h : r.2 = false ∧ (rs.headD f).2 = false
    · rw [if_pos h, if_pos h]
      show [(vI b (r.1.1 + (rs.headD f).1.1, r.1.2 + (rs.headD f).1.2), true)] = _
      congr 2
      show (Rat.divInt (r.1.1 + (rs.headD f).1.1) (2 * b), Rat.divInt (r.1.2 + (rs.headD f).1.2) (2 * b)) = _
      rw [divhalf hb, divhalf hb]
      rfl
    · rw [if_neg h, if_neg h]
      rfl
def lringI (rows : List (Pt × Bool)) : List (Pt × Bool) := rotG (lri (rows.headD ((0, 0), false)) rows)
def ringR (rows : List (Q2 × Bool)) : List (Q2 × Bool) := rotG (filR ((0, 0), false) rows)
theorem ring_eq {b : Int} (hb : 0 < b) (rows : List (Pt × Bool)) : (lringI rows).map (fun r => (vI b r.1, r.2)) = ringR (rows.map fun r => (v1 b r.1, r.2)) := by
  unfold lringI ringR filR
  rw [← rotG_map, lri_map hb]
  have e : ((v1 b (rows.headD ((0, 0), false)).1, (rows.headD ((0, 0), false)).2) : Q2 × Bool) = (rows.map fun r => (v1 b r.1, r.2)).headD (v1 b (0, 0), false) := by cases rows <;> rfl
  rw [e]
  cases rows with
  | nil => rfl
  | cons r rs => exact ring_same mdQ ((0, 0), false) (List.map (fun r => (v1 b r.1, r.2)) (r :: rs))
/-! ### curves -/
def cvP (m : Nat) (a o b : Q2) (j : Nat) : Q2 :=
  mixQ (mixQ a o (Rat.divInt ((j : Int) + 1) m) (Rat.divInt ((m : Int) - ((j : Int) + 1)) m)) (mixQ o b (Rat.divInt ((j : Int) + 1) m) (Rat.divInt ((m : Int) - ((j : Int) + 1)) m)) (Rat.divInt ((j : Int) + 1) m) (Rat.divInt ((m : Int) - ((j : Int) + 1)) m)
def cvR (m : Nat) (a o b : Q2) : List Q2 := (List.range (m - 1)).map (cvP m a o b)
def ltop (m s f o g : Int) : Int := (m - s) * (m - s) * f + 2 * s * (m - s) * o + s * s * g
theorem cv1 {m s f o g b : Int} (hm : 0 < m) (hb : 0 < b) : Rat.divInt (ltop m s f o g) (2 * m * m * b) =
    (Rat.divInt f (2 * b) * Rat.divInt (m - s) m + Rat.divInt o (2 * b) * Rat.divInt s m) * Rat.divInt (m - s) m + (Rat.divInt o (2 * b) * Rat.divInt (m - s) m + Rat.divInt g (2 * b) * Rat.divInt s m) * Rat.divInt s m := by
  have h1 : (2 * b) ≠ 0 := by omega
  have h2 : m ≠ 0 := by omega
  have h3 : 2 * b * m ≠ 0 := Int.mul_ne_zero h1 h2
  have h4 : 2 * b * m * (2 * b * m) ≠ 0 := Int.mul_ne_zero h3 h3
  have h5 : 2 * b * m * (2 * b * m) * m ≠ 0 := Int.mul_ne_zero h4 h2
  have h6 : 2 * m * m * b ≠ 0 := Int.mul_ne_zero (Int.mul_ne_zero (by omega) h2) (by omega)
  simp only [Rat.divInt_mul_divInt]
  rw [Rat.divInt_add_divInt _ _ h3 h3, Rat.divInt_add_divInt _ _ h3 h3, Rat.divInt_mul_divInt, Rat.divInt_mul_divInt, Rat.divInt_add_divInt _ _ h5 h5, Rat.divInt_eq_divInt_iff h6 (Int.mul_ne_zero h5 h5)]
  unfold ltop
  grind
def lcv (m b : Int) (f o g : Pt) (j : Nat) : Q2 := (Rat.divInt (ltop m (j + 1) f.1 o.1 g.1) (2 * m * m * b), Rat.divInt (ltop m (j + 1) f.2 o.2 g.2) (2 * m * m * b))
theorem lcv_eq {m : Nat} {b : Int} (hm : 0 < m) (hb : 0 < b) (f o g : Pt) (j : Nat) : lcv m b f o g j = cvP m (vI b f) (vI b o) (vI b g) j := by
  unfold lcv
  rw [cv1 (by omega) hb, cv1 (by omega) hb]
  rfl
/-! ### polygons -/
def polG {α : Type} (d : α × Bool) (on : α → Q2) (cv : α → α → α → List Q2) (ring : List (α × Bool)) (k : Nat) : List Q2 :=
  if (ring.getD k d).2 = true then [on (ring.getD k d).1] else cv (ring.getD (prevI ring.length k) d).1 (ring.getD k d).1 (ring.getD ((k + 1) % ring.length) d).1
def polR (m : Nat) (ring : List (Q2 × Bool)) : List Q2 := (List.range ring.length).flatMap (polG ((0, 0), false) id (cvR m) ring)
def lpolI (m : Nat) (b : Int) (ring : List (Pt × Bool)) : List Q2 := (List.range ring.length).flatMap (polG ((0, 0), false) (vI b) (fun f o g => (List.range (m - 1)).map (lcv m b f o g)) ring)
theorem pol_eq {m : Nat} {b : Int} (hm : 0 < m) (hb : 0 < b) (ring : List (Pt × Bool)) : lpolI m b ring = polR m (ring.map fun r => (vI b r.1, r.2)) := by
  unfold lpolI polR
  rw [List.length_map]
  simp only [List.flatMap]
  congr 1
  refine List.map_congr_left fun k hk => ?_
  have hk := List.mem_range.mp hk
  have hn : 0 < ring.length := by omega
  have h1 : prevI ring.length k < ring.length := by unfold prevI; split <;> omega
  have h2 : (k + 1) % ring.length < ring.length := Nat.mod_lt _ hn
  have at_ : ∀ i, i < ring.length → (ring.map fun r => (vI b r.1, r.2)).getD i ((0, 0), false) = (vI b (ring.getD i ((0, 0), false)).1, (ring.getD i ((0, 0), false)).2) := fun i hi => by
    rw [List.getD_eq_getElem?_getD, List.getD_eq_getElem?_getD, List.getElem?_map, List.getElem?_eq_getElem hi]
    rfl
  unfold polG
  rw [List.length_map, at_ k hk, at_ _ h1, at_ _ h2]
  dsimp only
  split
  · rfl
  · unfold cvR
    refine List.map_congr_left fun j _ => ?_
    exact lcv_eq hm hb _ _ _ j



def rQ2 (QI : List D → (Kap → Prop) → Kap → Prop) : List D → Kap → Prop := fun xs κ1 => match xs with
  | [.int i, .int j] => (-(2 ^ 62) ≤ i ∧ i < 2 ^ 62 ∧ -(2 ^ 62) ≤ j ∧ j < 2 ^ 62) ∧ QI (rangeD i (j - i).toNat) gTrue κ1
  | _ => False
theorem r_2 {QI : List D → (Kap → Prop) → Kap → Prop} {as : DA} {δ : DEnv} {κ : Kap} {X : DX} (h : as δ κ X (rQ2 QI)) : iRange2 as δ κ X QI := h
theorem rq_2 {QI : List D → (Kap → Prop) → Kap → Prop} {κ : Kap} {i j : Int} (h1 : -(2 ^ 62) ≤ i) (h2 : i < 2 ^ 62) (h3 : -(2 ^ 62) ≤ j) (h4 : j < 2 ^ 62) (h : QI (rangeD i (j - i).toNat) gTrue κ) : rQ2 QI [.int i, .int j] κ := ⟨⟨h1, h2, h3, h4⟩, h⟩
theorem i_zip {as : DA} {δ : DEnv} {κ : Kap} {X : DX} {QI : List D → (Kap → Prop) → Kap → Prop} (h : as δ κ X (zQ QI)) : iZipD as δ κ X QI := h
theorem if_y {p : Prop} {_ : Decidable p} {A B : Prop} (hp : p) (h : A) : if p then A else B := by
  rw [if_pos hp]
  exact h
theorem if_n {p : Prop} {_ : Decidable p} {A B : Prop} (hp : ¬p) (h : B) : if p then A else B := by
  rw [if_neg hp]
  exact h
theorem zq_tt {QI : List D → (Kap → Prop) → Kap → Prop} {κ : Kap} {a1 a2 b1 b2 : D} (h : ∀ gd : Kap → Prop, (∀ κ', gd κ') → QI [.node .tup [a1, b1], .node .tup [a2, b2]] gd κ) : zQ QI [.node .tup [a1, a2], .node .tup [b1, b2]] κ := by
  refine ⟨.inl rfl, [(.tup, false), (.tup, false)], [[a1, a2], [b1, b2]], 2, rfl, rfl, ?_, ⟨_, List.mem_cons_self, rfl⟩, h _ ?_⟩
  · intro j x hx
    match j, hx with
    | 0, hx => cases hx; exact ⟨_, _, _, rfl, rfl, rfl, Nat.le_refl _, rfl⟩
    | 1, hx => cases hx; exact ⟨_, _, _, rfl, rfl, rfl, Nat.le_refl _, rfl⟩
    | j + 2, hx => simp at hx
  · intro κ' j x hx
    match j, hx with
    | 0, hx => cases hx; rfl
    | 1, hx => cases hx; rfl
    | j + 2, hx => simp at hx
inductive WL (κ : Kap) : D → List D → Prop
  | lst {xs : List D} : WL κ (.node .lst xs) xs
  | cell {n : Nat} {xs : List D} (e : κ n = some (.live .lst xs)) : WL κ (.cell n) xs
theorem WL.wk {κ : Kap} {d : D} {xs : List D} (h : WL κ d xs) : Wk κ d xs := by
  cases h with
  | lst => exact .lst
  | cell e => exact .cell e
theorem WL.mono {κ κ' : Kap} {d : D} {xs : List D} (h : WL κ d xs) (f : Fa κ κ') : WL κ' d xs := by
  cases h with
  | lst => exact .lst
  | cell e => exact .cell (f _ _ e)
theorem WL.vw {κ : Kap} {d : D} {xs : List D} (h : WL κ d xs) : view d κ = some (.lst, xs) := by
  cases h with
  | lst => rfl
  | cell e => exact vw_cell e
theorem ix_wl {κ : Kap} {Q : DQ} {x d : D} {xs : List D} {i : Int} (w : WL κ x xs) (h : L2.atI xs i = some d) (q : Q d κ) : fIx x (.int i) κ Q := by
  cases w with
  | lst => exact ⟨d, h, q⟩
  | cell e =>
    rw [ix_cell e]
    exact ⟨d, h, q⟩
theorem en_wl {κ : Kap} {d : D} {xs : List D} {QI : List D → (Kap → Prop) → Kap → Prop} (h : WL κ d xs) (q : ∀ gd : Kap → Prop, (∀ κ', Fa κ κ' → gd κ') → QI (enumD 0 xs) gd κ) : eQ QI [d] κ := by
  cases h with
  | lst => exact en_N (q _ fun _ _ => trivial)
  | cell e => exact en_C e (q _ fun κ' f => f _ _ e)
theorem f_extV {κ : Kap} {Q : DQ} {n : Nat} {d : D} {xs ys : List D} (e : κ n = some (.live .lst xs)) (w : WL κ d ys) (hl : xs.length + ys.length ≤ sizeLine) (h : Q .non (kset κ n (.live .lst (xs ++ ys)))) : fExtV (.cell n) [d] κ Q := ⟨xs, ys, e, w.vw, hl, h⟩
theorem hn_of {κ κ' : Kap} (f : Fa κ κ') {n : Nat} (h : κ' n = none) : κ n = none := by
  cases e : κ n with
  | none => rfl
  | some c => rw [f _ _ e] at h; cases h
def plQ (p : Q2) : D := plD p.1 p.2
def SzP (k : Nat) (p : Q2) : Prop := Sz k p.1 ∧ Sz k p.2
theorem SzP.mono {k m : Nat} {p : Q2} (h : SzP k p) (hm : k ≤ m) : SzP m p := ⟨h.1.mono hm, h.2.mono hm⟩
theorem SzP.mix {k j : Nat} {p q : Q2} {s t : Rat} (hp : SzP k p) (hq : SzP j q) (hs : Sz 3 s) (ht : Sz 3 t) : SzP (k + j + 7) (mixQ p q s t) := by
  refine ⟨((hp.1.mul ht).add (hq.1.mul hs)).mono (by omega), ((hp.2.mul ht).add (hq.2.mul hs)).mono (by omega)⟩
theorem sz_share {a m : Nat} (h : a ≤ m) (hm : 0 < m) (h4 : m ≤ 4) : Sz 3 (Rat.divInt (a : Int) m) := Sz.divInt (by omega) (by omega) (by omega)
section
variable {κ : Kap} {X : Str → List D → Kap → Prop} {Q : DQ}
theorem fraction_q {u l : Int} (hl : l ≠ 0) (hb : l.natAbs < 2 ^ 8000) (h : Q (nq (Rat.divInt u l)) κ) : sp_fraction [.int u, .int l] κ X Q := fraction_spec hl hb (by rw [nb_rt hl]; exact h)
theorem mixed_q {k j : Nat} {p q : Q2} {s t : Rat} (hp : SzP k p) (hq : SzP j q) (hs : Sz 3 s) (ht : Sz 3 t) (hk : k + j ≤ 4000) (h : ∀ κ', Fa κ κ' → Q (plQ (mixQ p q s t)) κ') : sp_mixed [plQ p, plQ q, nq s, nq t] κ X Q := by
  (unfold sp_mixed; refine s_sp rfl ?_; simp only [startD, List.map_cons, List.map_nil, List.length_cons, List.length_nil, Nat.zero_add, Nat.reduceAdd, Nat.reduceSub, List.replicate, List.cons_append, List.nil_append]; unfold b_mixed)
  (repeat walk_at "st")
  refine i_zip ?_
  (repeat walk_at "st")
  unfold plQ plD
  refine zq_tt fun gd hgd => ?_
  intro n hn
  refine ⟨hgd _, ?_⟩
  rw [bi_inr rfl]
  simp only [dwipe, List.set_cons_zero, List.set_cons_succ]
  (repeat walk_at "st")
  refine times_q hp.1 ht (by omega) ?_
  (repeat walk_at "st")
  refine times_q hq.1 hs (by omega) ?_
  (repeat walk_at "st")
  refine plus_q (hp.1.mul ht) (hq.1.mul hs) (by omega) ?_
  refine ⟨kset_same, by decide, ?_⟩
  refine ⟨hgd _, ?_⟩
  rw [bi_inr rfl]
  simp only [dwipe, List.set_cons_zero, List.set_cons_succ]
  (repeat walk_at "st")
  refine times_q hp.2 ht (by omega) ?_
  (repeat walk_at "st")
  refine times_q hq.2 hs (by omega) ?_
  (repeat walk_at "st")
  refine plus_q (hp.2.mul ht) (hq.2.mul hs) (by omega) ?_
  refine ⟨kset_same, by unfold sizeLine; simp, hgd _, kset_same, ?_⟩
  (repeat walk_at "st")
  exact h _ (((Fa.new hn).put hn).put hn |>.put hn)
theorem amid_q {k j : Nat} {p q : Q2} (hp : SzP k p) (hq : SzP j q) (hk : k + j ≤ 4000) (h : ∀ κ', Fa κ κ' → Q (plQ (mdQ p q)) κ') : sp_amid [plQ p, plQ q] κ X Q := by
  (unfold sp_amid; refine s_sp rfl ?_; simp only [startD, List.map_cons, List.map_nil, List.length_cons, List.length_nil, Nat.zero_add, Nat.reduceAdd, Nat.reduceSub, List.replicate, List.cons_append, List.nil_append]; unfold b_amid)
  (repeat walk_at "st")
  refine fraction_q (by decide) (by decide) ?_
  (repeat walk_at "st")
  refine fraction_q (by decide) (by decide) ?_
  (repeat walk_at "st")
  exact mixed_q hp hq (Sz.divInt (by decide) (by decide) (by decide)) (Sz.divInt (by decide) (by decide) (by decide)) hk h
theorem cvR_len (m : Nat) (a o b : Q2) : (cvR m a o b).length = m - 1 := by
  unfold cvR
  rw [List.length_map, List.length_range]
theorem cvP_sz {k m j : Nat} {a o b : Q2} (ha : SzP k a) (ho : SzP k o) (hb : SzP k b) (hm : 1 ≤ m) (h4 : m ≤ 4) (hj : j + 1 < m) : SzP (4 * k + 21) (cvP m a o b j) := by
  have s1 : Sz 3 (Rat.divInt ((j : Int) + 1) m) := sz_share (a := j + 1) (by omega) (by omega) h4
  have s2 : Sz 3 (Rat.divInt ((m : Int) - ((j : Int) + 1)) m) := by
    rw [show (m : Int) - ((j : Int) + 1) = ((m - (j + 1) : Nat) : Int) by omega]
    exact sz_share (by omega) (by omega) h4
  exact ((ha.mix ho s1 s2).mix (ho.mix hb s1 s2) s1 s2).mono (by omega)
theorem curve_q {k m : Nat} {a o b : Q2} (ha : SzP k a) (ho : SzP k o) (hb : SzP k b) (hm : 1 ≤ m) (h4 : m ≤ 4) (hk : k ≤ 500) (h : ∀ n κ', κ n = none → κ' n = some (.live .lst ((cvR m a o b).map plQ)) → Fa κ κ' → Q (.cell n) κ') : sp_curve_cut [plQ a, plQ o, plQ b, .int (m : Nat)] κ X Q := by
  (unfold sp_curve_cut; refine s_sp rfl ?_; simp only [startD, List.map_cons, List.map_nil, List.length_cons, List.length_nil, Nat.zero_add, Nat.reduceAdd, Nat.reduceSub, List.replicate, List.cons_append, List.nil_append]; unfold b_curve_cut)
  (repeat walk_at "st")
  refine e_nwt fun n hn => ?_
  (repeat walk_at "st")
  refine r_2 ?_
  (repeat walk_at "st")
  refine rq_2 (by omega) (by omega) (by omega) (by omega) ?_
  rw [show ((m : Int) - 1).toNat = m - 1 by omega]
  refine dl_ix (fun i δ κ' => (∃ a5 a6 a7 a8 a9, δ = [some (plQ a), some (plQ o), some (plQ b), some (.int (m : Nat)), some (.cell n), a5, a6, a7, a8, a9]) ∧ κ' n = some (.live .lst (((List.range i).map (cvP m a o b)).map plQ)) ∧ Fa κ κ') ?_ ?_ ⟨⟨_, _, _, _, _, rfl⟩, kset_same, Fa.new hn⟩
  · rintro δ κ' ⟨⟨a5, a6, a7, a8, a9, rfl⟩, e, f⟩
    rw [rangeD_len] at e
    refine ⟨trivial, ?_⟩
    (repeat walk_at "st")
    exact h n κ' hn e f
  · rintro i d δ κ' L hd hL ⟨⟨a5, a6, a7, a8, a9, rfl⟩, e, f⟩
    obtain ⟨hi, rfl⟩ := rangeD_get hd
    refine ⟨trivial, ?_⟩
    rw [show (1 : Int) + (i : Nat) = (i : Int) + 1 by omega]
    have s1 : Sz 3 (Rat.divInt ((i : Int) + 1) m) := sz_share (a := i + 1) (by omega) (by omega) h4
    have s2 : Sz 3 (Rat.divInt ((m : Int) - ((i : Int) + 1)) m) := by
      rw [show (m : Int) - ((i : Int) + 1) = ((m - (i + 1) : Nat) : Int) by omega]
      exact sz_share (by omega) (by omega) h4
    have hmb : ((m : Nat) : Int).natAbs < 2 ^ 8000 := Nat.lt_of_lt_of_le (show ((m : Nat) : Int).natAbs < 2 ^ 3 by omega) (Nat.pow_le_pow_right (by decide) (by decide))
    (repeat walk_at "st")
    refine fraction_q (by omega) hmb ?_
    (repeat walk_at "st")
    refine fraction_q (by omega) hmb ?_
    (repeat walk_at "st")
    refine mixed_q ha ho s1 s2 (by omega) fun κ1 f1 => ?_
    (repeat walk_at "st")
    refine mixed_q ho hb s1 s2 (by omega) fun κ2 f2 => ?_
    have e2 := f2 _ _ (f1 _ _ e)
    (repeat walk_at "st")
    refine isq_cell e2 ?_
    (repeat walk_at "st")
    refine mixed_q (ha.mix ho s1 s2) (ho.mix hb s1 s2) s1 s2 (by omega) fun κ3 f3 => ?_
    have e3 := f3 _ _ e2
    (repeat walk_at "st")
    refine f_app e3 (by rw [List.length_map, List.length_map, List.length_range]; omega) ?_
    (repeat walk_at "st")
    refine hL _ _ ⟨⟨_, _, _, _, _, rfl⟩, ?_, (f.trans (f1.trans (f2.trans f3))).put hn⟩
    rw [kset_same, List.range_succ, List.map_append, List.map_append]
    rfl
end



abbrev Rw := Q2 × Bool
def d0 : Rw := ((0, 0), false)
def rwQ (r : Rw) : D := .node .tup [plQ r.1, .bl r.2]
theorem map_at {α : Type} {g : α → D} {xs : List α} {i : Nat} {a : α} (h : xs[i]? = some a) : (xs.map g)[i]? = some (g a) := by
  rw [List.getElem?_map, h]
  rfl
theorem prev_lt {n i : Nat} (h : i < n) : prevI n i < n := by
  unfold prevI
  split <;> omega
theorem at_d {α : Type} {d : α} {xs : List α} {i : Nat} (h : i < xs.length) : xs[i]? = some (xs.getD i d) := by
  rw [List.getD_eq_getElem?_getD, List.getElem?_eq_getElem h]
  rfl
theorem atI_prev {α : Type} {g : α → D} {d : α} {xs : List α} {i : Nat} (h : i < xs.length) : L2.atI (xs.map g) ((i : Int) - 1) = some (g (xs.getD (prevI xs.length i) d)) :=
  at_prev (by rw [List.length_map]; exact h) (by rw [List.length_map]; exact map_at (at_d (prev_lt h)))
theorem last_prev {α : Type} {d : α} {xs : List α} : xs.getLastD d = xs.getD (prevI xs.length 0) d := by
  unfold prevI
  rw [if_pos rfl, List.getLastD_eq_getLast?, List.getLast?_eq_getElem?, List.getD_eq_getElem?_getD]
theorem fl_len {α : Type} {md : α → α → α} : ∀ (rs : List (α × Bool)) (p : α × Bool), (fl md p rs).length ≤ 2 * rs.length ∧ rs.length ≤ (fl md p rs).length
  | [], _ => ⟨Nat.le_refl _, Nat.le_refl _⟩
  | r :: rs, p => by
    have ih := fl_len (md := md) rs r
    show ((if r.2 = false ∧ p.2 = false then [(md p.1 r.1, true)] else []) ++ r :: fl md r rs).length ≤ _ ∧ _ ≤ ((if r.2 = false ∧ p.2 = false then [(md p.1 r.1, true)] else []) ++ r :: fl md r rs).length
    rw [List.length_append, List.length_cons, List.length_cons]
    split
    · rw [List.length_cons, List.length_nil]
      omega
    · rw [List.length_nil]
      omega
theorem fl_sz {k : Nat} : ∀ (rs : List Rw) (p : Rw), SzP k p.1 → (∀ r ∈ rs, SzP k r.1) → ∀ r ∈ fl mdQ p rs, SzP (2 * k + 7) r.1
  | [], _, _, _, r, h => absurd h List.not_mem_nil
  | q :: rs, p, hp, hr, r, h => by
    have hq := hr q List.mem_cons_self
    have h' : r ∈ (if q.2 = false ∧ p.2 = false then [(mdQ p.1 q.1, true)] else []) ++ q :: fl mdQ q rs := h
    rcases List.mem_append.mp h' with z | z
    · split at z
      · rw [List.mem_singleton.mp z]
        exact (hp.mix hq (Sz.divInt (by decide) (by decide) (by decide)) (Sz.divInt (by decide) (by decide) (by decide))).mono (by omega)
      · exact absurd z List.not_mem_nil
    · rcases List.mem_cons.mp z with rfl | z
      · exact hq.mono (by omega)
      · exact fl_sz rs q hq (fun x hx => hr x (List.mem_cons_of_mem _ hx)) r z
theorem rotG_mem {α : Type} {xs : List (α × Bool)} {r : α × Bool} (h : r ∈ rotG xs) : r ∈ xs := by
  cases xs with
  | nil => exact h
  | cons x xs =>
    by_cases hx : x.2 = true
    · rw [rotG_on hx] at h
      exact h
    · rw [rotG_off (by simpa using hx)] at h
      rcases List.mem_append.mp h with z | z
      · exact List.mem_of_mem_drop z
      · exact List.mem_of_mem_take z
theorem rotG_len {α : Type} (xs : List (α × Bool)) : (rotG xs).length = xs.length := by
  cases xs with
  | nil => rfl
  | cons x xs =>
    by_cases hx : x.2 = true
    · rw [rotG_on hx]
    · rw [rotG_off (by simpa using hx), List.length_append, List.length_drop, List.length_take, List.length_cons]
      omega
theorem ringR_len (rows : List Rw) : (ringR rows).length ≤ 2 * rows.length ∧ rows.length ≤ (ringR rows).length := by
  unfold ringR filR
  rw [rotG_len]
  exact fl_len _ _
theorem lastD_mem {α : Type} {d : α} {xs : List α} (h : xs ≠ []) : xs.getLastD d ∈ xs := by
  rw [List.getLastD_eq_getLast?, List.getLast?_eq_some_getLast h]
  exact List.getLast_mem h
theorem ringR_sz {k : Nat} {rows : List Rw} (h : ∀ r ∈ rows, SzP k r.1) : ∀ r ∈ ringR rows, SzP (2 * k + 7) r.1 := fun r hr => by
  have hr' := rotG_mem hr
  unfold filR at hr'
  by_cases e : rows = []
  · rw [e] at hr'
    exact absurd hr' List.not_mem_nil
  · exact fl_sz _ _ (h _ (lastD_mem e)) h r hr'
theorem sIx_m1 {n d : Nat} (h : 0 < n) : HT.sIx n d (some (-1)) = n - 1 := by
  show (if (-1 : Int) < 0 then ((-1 : Int) + (n : Int)).toNat else min (-1 : Int).toNat n) = n - 1
  rw [if_pos (by decide)]
  omega
theorem cut_drop {xs : List D} (h : xs ≠ []) : cutD xs (some (-1)) none = xs.drop (xs.length - 1) := by
  have := List.length_pos_iff.mpr h
  unfold cutD
  rw [HT.sIx_none, show HT.sIx xs.length 0 (some (-1)) = xs.length - 1 from sIx_m1 this]
  exact List.take_of_length_le (by rw [List.length_drop]; omega)
theorem cut_take {xs : List D} (h : xs ≠ []) : cutD xs none (some (-1)) = xs.take (xs.length - 1) := by
  have := List.length_pos_iff.mpr h
  unfold cutD
  rw [HT.sIx_none, show HT.sIx xs.length xs.length (some (-1)) = xs.length - 1 from sIx_m1 this]
  rfl
theorem polG_len {m : Nat} {ring : List Rw} {k : Nat} : (polG d0 id (cvR m) ring k).length ≤ m + 1 := by
  unfold polG
  split
  · simp
  · rw [cvR_len]
    omega
theorem pol_part {m : Nat} {ring : List Rw} : ∀ i, ((List.range i).flatMap (polG d0 id (cvR m) ring)).length ≤ i * (m + 1)
  | 0 => by simp
  | i + 1 => by
    rw [List.range_succ, List.flatMap_append, List.length_append]
    have := pol_part (m := m) (ring := ring) i
    have h2 := polG_len (m := m) (ring := ring) (k := i)
    simp only [List.flatMap_cons, List.flatMap_nil, List.append_nil]
    rw [Nat.add_mul]
    omega
section
variable {κ : Kap} {X : Str → List D → Kap → Prop} {Q : DQ}
theorem filled_q {k : Nat} {rows : List Rw} (h0 : rows ≠ []) (hl : rows.length ≤ 200) (hs : ∀ r ∈ rows, SzP k r.1) (hk : k ≤ 1000) (h : ∀ d κ', WL κ' d ((ringR rows).map rwQ) → Fa κ κ' → Q d κ') : sp_filled_up [.node .lst (rows.map rwQ)] κ X Q := by
  (unfold sp_filled_up; refine s_sp rfl ?_; simp only [startD, List.map_cons, List.map_nil, List.length_cons, List.length_nil, Nat.zero_add, Nat.reduceAdd, Nat.reduceSub, List.replicate, List.cons_append, List.nil_append]; unfold b_filled_up)
  (repeat walk_at "st")
  refine e_nwt fun n hn => ?_
  (repeat walk_at "st")
  refine dl_ix (fun i δ κ' => (∃ a2 a3 a4 a5 a6, δ = [some (.node .lst (rows.map rwQ)), some (.cell n), a2, a3, a4, a5, a6]) ∧ (∃ acc : List Rw, κ' n = some (.live .lst (acc.map rwQ)) ∧ acc ++ fl mdQ (rows.getD (prevI rows.length i) d0) (rows.drop i) = filR d0 rows) ∧ Fa κ κ') ?_ ?_ ⟨⟨_, _, _, _, _, rfl⟩, ⟨[], kset_same, ?_⟩, Fa.new hn⟩
  · rintro δ κ' ⟨⟨a2, a3, a4, a5, a6, rfl⟩, ⟨acc, e, ha⟩, f⟩
    rw [enumD_len, List.length_map, List.drop_length] at ha
    have ha' : acc = filR d0 rows := by
      rw [← ha]
      exact (List.append_nil acc).symm
    subst ha'
    clear ha
    refine ⟨trivial, ?_⟩
    have hne : filR d0 rows ≠ [] := fun z => by
      have h1 := (fl_len (md := mdQ) rows (rows.getLastD d0)).2
      have h2 := List.length_pos_iff.mpr h0
      unfold filR at z
      rw [z, List.length_nil] at h1
      omega
    have hfl : (filR d0 rows).length ≤ 400 := by
      have h1 := (fl_len (md := mdQ) rows (rows.getLastD d0)).1
      unfold filR
      omega
    have hring : ringR rows = rotG (filR d0 rows) := rfl
    rw [hring] at h
    generalize filR d0 rows = ring at e hne hfl h
    cases ring with
    | nil => exact absurd rfl hne
    | cons r rs =>
      (repeat walk_at "st")
      refine ix_wl (.cell e) (at_nat (n := 0) (xs := (r :: rs).map rwQ) rfl) ?_
      unfold rwQ
      (repeat walk_at "st")
      cases hr : r.2 with
      | true =>
        (repeat walk_at "st")
        rw [rotG_on hr] at h
        exact h _ _ (.cell e) f
      | false =>
        have hne' : (r :: rs).map rwQ ≠ [] := by simp
        (repeat walk_at "st")
        refine sl_C e ?_
        (repeat walk_at "st")
        refine sl_C e ?_
        (repeat walk_at "st")
        rw [cut_drop hne', cut_take hne']
        refine f_adL (by rw [List.length_drop, List.length_take, List.length_map]; unfold sizeLine; omega) ?_
        (repeat walk_at "st")
        refine h _ _ ?_ f
        rw [rotG_off hr, List.map_append, List.map_drop, List.map_take]
        have e3 : ((r :: rs).map rwQ).length - 1 = rs.length := by simp
        rw [e3]
        exact .lst
  · rintro i d δ κ' L hd hL ⟨⟨a2, a3, a4, a5, a6, rfl⟩, ⟨acc, e, ha⟩, f⟩
    rw [enumD_get, List.getElem?_map, Option.map_map, Option.map_eq_some_iff] at hd
    obtain ⟨r, hr, rfl⟩ := hd
    have hi := (List.getElem?_eq_some_iff.mp hr).1
    have hp := atI_prev (g := rwQ) (d := d0) hi
    have hpm : rows.getD (prevI rows.length i) d0 ∈ rows := List.mem_of_getElem? (at_d (prev_lt hi))
    have hrm : r ∈ rows := List.mem_of_getElem? hr
    have hdr : rows.drop i = r :: rows.drop (i + 1) := by
      rw [List.drop_eq_getElem_cons hi]
      rw [List.getElem?_eq_getElem hi] at hr
      cases hr
      rfl
    have hnx : rows.getD (prevI rows.length (i + 1)) d0 = r := by
      unfold prevI
      rw [if_neg (by omega), Nat.add_sub_cancel, List.getD_eq_getElem?_getD, hr]
      rfl
    rw [hnx] at hL
    rw [hdr] at ha
    have sp := hs _ hpm
    have sr := hs _ hrm
    generalize rows.getD (prevI rows.length i) d0 = p at ha hp sp
    change acc ++ ((if r.2 = false ∧ p.2 = false then [(mdQ p.1 r.1, true)] else []) ++ r :: fl mdQ r (rows.drop (i + 1))) = filR d0 rows at ha
    have hal : acc.length ≤ 400 := by
      have h1 := congrArg List.length ha
      rw [List.length_append] at h1
      have h2 := (fl_len (md := mdQ) rows (rows.getLastD d0)).1
      unfold filR at h1
      omega
    refine ⟨trivial, ?_⟩
    show gTupD 2 _ (.node .tup [.int ((0 + i : Nat) : Int), rwQ r]) _ _ _ _
    rw [Nat.zero_add]
    unfold rwQ
    (repeat walk_at "st")
    refine ix_wl .lst (by exact hp) ?_
    unfold rwQ
    (repeat walk_at "st")
    obtain ⟨rp, rb⟩ := r
    obtain ⟨pp, pb⟩ := p
    dsimp only at ha sp sr ⊢
    have fin : ∀ (acc : List Rw) κ1 a5 a6, κ1 n = some (.live .lst (acc.map rwQ)) → acc ++ ((rp, rb) :: fl mdQ (rp, rb) (rows.drop (i + 1))) = filR d0 rows → Fa κ κ1 → L [some (.node .lst (rows.map rwQ)), some (.cell n), some (.int (i : Nat)), some (plQ rp), some (.bl rb), a5, a6] (kset κ1 n (.live .lst (acc.map rwQ ++ [rwQ (rp, rb)]))) := fun acc κ1 a5 a6 e1 ha1 f1 => by
      refine hL _ _ ⟨⟨_, _, _, _, _, rfl⟩, ⟨acc ++ [(rp, rb)], ?_, ?_⟩, f1.put hn⟩
      · rw [kset_same, List.map_append]
        rfl
      · rw [List.append_assoc]
        exact ha1
    have one : rb = true ∨ pb = true → acc ++ ((rp, rb) :: fl mdQ (rp, rb) (rows.drop (i + 1))) = filR d0 rows := fun hz => by
      rw [if_neg (fun z => hz.elim (fun q => absurd (z.1.symm.trans q) (by decide)) fun q => absurd (z.2.symm.trans q) (by decide)), List.nil_append] at ha
      exact ha
    cases rb with
    | true =>
      (repeat walk_at "st")
      refine isq_cell e ?_
      (repeat walk_at "st")
      refine f_app (d := rwQ (rp, true)) e (by rw [List.length_map]; omega) ?_
      (repeat walk_at "st")
      exact fin acc κ' _ _ e (one (.inl rfl)) f
    | false =>
      cases pb with
      | true =>
        (repeat walk_at "st")
        refine isq_cell e ?_
        (repeat walk_at "st")
        refine f_app (d := rwQ (rp, false)) e (by rw [List.length_map]; omega) ?_
        (repeat walk_at "st")
        exact fin acc κ' _ _ e (one (.inr rfl)) f
      | false =>
        (repeat walk_at "st")
        refine isq_cell e ?_
        (repeat walk_at "st")
        refine amid_q sp sr (by omega) fun κ1 f1 => ?_
        have e1 := f1 _ _ e
        (repeat walk_at "st")
        refine f_app (d := rwQ (mdQ pp rp, true)) e1 (by rw [List.length_map]; omega) ?_
        (repeat walk_at "st")
        refine isq_cell kset_same ?_
        (repeat walk_at "st")
        rw [if_pos ⟨rfl, rfl⟩] at ha
        refine f_app (d := rwQ (rp, false)) kset_same (by rw [List.length_append, List.length_map]; simp only [List.length_cons, List.length_nil]; omega) ?_
        (repeat walk_at "st")
        have := fin (acc ++ [(mdQ pp rp, true)]) (kset κ1 n (.live .lst ((acc ++ [(mdQ pp rp, true)]).map rwQ))) (some (plQ pp)) (some (.bl false)) kset_same (by rw [List.append_assoc]; exact ha) ((f.trans f1).put hn)
        rw [List.map_append] at this
        exact this
  · rw [List.nil_append, List.drop_zero, ← last_prev]
    rfl
end



/-- a list of lists, each in a cell of its own -/
def Cs (κ : Kap) (ms : List Nat) (yss : List (List D)) : Prop := ms.length = yss.length ∧ ms.Nodup ∧ ∀ (j : Nat) (m : Nat) (ys : List D), ms[j]? = some m → yss[j]? = some ys → κ m = some (.live .lst ys)
theorem Cs.mono {κ κ' : Kap} {ms : List Nat} {yss : List (List D)} (h : Cs κ ms yss) (f : ∀ m ∈ ms, ∀ c, κ m = some c → κ' m = some c) : Cs κ' ms yss :=
  ⟨h.1, h.2.1, fun j m ys h1 h2 => f m (List.mem_of_getElem? h1) _ (h.2.2 j m ys h1 h2)⟩
theorem Cs.is {κ : Kap} {ms : List Nat} {yss : List (List D)} (h : Cs κ ms yss) {m : Nat} (hm : m ∈ ms) : ∃ ys, κ m = some (.live .lst ys) := by
  obtain ⟨j, hj⟩ := List.mem_iff_getElem?.mp hm
  have hl := (List.getElem?_eq_some_iff.mp hj).1
  rw [h.1] at hl
  exact ⟨_, h.2.2 j m _ hj (List.getElem?_eq_getElem hl)⟩
theorem Cs.nil {κ : Kap} : Cs κ [] [] := ⟨rfl, List.nodup_nil, fun j m ys h => by simp at h⟩
theorem Cs.snoc {κ κ' : Kap} {ms : List Nat} {yss : List (List D)} {m : Nat} {ys : List D} (h : Cs κ ms yss) (f : Fa κ κ') (hm : κ m = none) (e : κ' m = some (.live .lst ys)) : Cs κ' (ms ++ [m]) (yss ++ [ys]) := by
  refine ⟨by rw [List.length_append, List.length_append, h.1]; rfl, ?_, ?_⟩
  · rw [List.nodup_append]
    refine ⟨h.2.1, by simp, fun a ha b hb z => ?_⟩
    obtain ⟨zs, hz⟩ := h.is ha
    rw [List.mem_singleton.mp hb] at z
    rw [z, hm] at hz
    cases hz
  · intro j k zs h1 h2
    by_cases hj : j < ms.length
    · rw [List.getElem?_append_left hj] at h1
      rw [List.getElem?_append_left (by rw [← h.1]; exact hj)] at h2
      exact f _ _ (h.2.2 j k zs h1 h2)
    · have hj1 := (List.getElem?_eq_some_iff.mp h1).1
      rw [List.length_append, List.length_cons, List.length_nil] at hj1
      have ej : j = ms.length := by omega
      subst ej
      rw [List.getElem?_append_right (Nat.le_refl _), Nat.sub_self] at h1
      rw [List.getElem?_append_right (by rw [h.1]; exact Nat.le_refl _), h.1, Nat.sub_self] at h2
      cases h1
      cases h2
      exact e
def endsL {α : Type} (rws : List (List α)) : List Int := (List.range rws.length).map fun i => (((rws.take (i + 1)).flatten.length : Nat) : Int) - 1
def polI (m : Nat) (rows : List Rw) : List D := (polR m (ringR rows)).map plQ
theorem cut_two {xs : List D} {i j : Nat} (h1 : i ≤ xs.length) (h2 : j ≤ xs.length) : cutD xs (some (i : Int)) (some (j : Int)) = (xs.drop i).take (j - i) := by
  unfold cutD
  rw [HT.sIx_nat, HT.sIx_nat, Nat.min_eq_left h1, Nat.min_eq_left h2]
theorem flat_succ {α : Type} {rws : List (List α)} {i : Nat} {r : List α} (h : rws[i]? = some r) : (rws.take (i + 1)).flatten = (rws.take i).flatten ++ r := by
  rw [List.take_succ, h, List.flatten_append]
  simp
theorem flat_cut {α : Type} {rws : List (List α)} {i : Nat} {r : List α} (h : rws[i]? = some r) : (rws.flatten.drop (rws.take i).flatten.length).take r.length = r := by
  have e : rws.flatten = (rws.take i).flatten ++ (r ++ (rws.drop (i + 1)).flatten) := by
    have : rws = rws.take i ++ r :: rws.drop (i + 1) := by
      have hi := (List.getElem?_eq_some_iff.mp h).1
      rw [List.getElem?_eq_getElem hi] at h
      cases h
      rw [← List.drop_eq_getElem_cons hi, List.take_append_drop]
    conv => lhs; rw [this]
    rw [List.flatten_append, List.flatten_cons]
  rw [e, List.drop_left, List.take_left]
theorem flat_le {α : Type} (rws : List (List α)) (i : Nat) : (rws.take i).flatten.length ≤ rws.flatten.length := by
  have : rws.flatten = (rws.take i).flatten ++ (rws.drop i).flatten := by rw [← List.flatten_append, List.take_append_drop]
  rw [this, List.length_append]
  omega
theorem zip_rw {rows : List Rw} : zipD [rows.map fun r => plQ r.1, rows.map fun r => .bl r.2] rows.length = rows.map rwQ := by
  unfold zipD
  refine List.ext_getElem? fun i => ?_
  rw [List.getElem?_map, List.getElem?_map]
  by_cases h : i < rows.length
  · rw [List.getElem?_range h, List.getElem?_eq_getElem h]
    show some (D.node .tup (rowsD _ i)) = some (rwQ rows[i])
    unfold rowsD rwQ
    rw [List.filterMap_cons, List.getElem?_map, List.getElem?_eq_getElem h]
    show some (D.node .tup (_ :: List.filterMap _ _)) = _
    rw [List.filterMap_cons, List.getElem?_map, List.getElem?_eq_getElem h]
    rfl
  · rw [List.getElem?_eq_none (by rw [List.length_range]; omega), List.getElem?_eq_none (by omega)]
    rfl
theorem wk_zip {κ : Kap} {d : D} {xs : List D} (w : Wk κ d xs) : ∃ k b, zipK k = some b ∧ view d κ = some (k, xs) := by
  cases w with
  | lst => exact ⟨_, _, rfl, rfl⟩
  | tup => exact ⟨_, _, rfl, rfl⟩
  | cell e => exact ⟨_, _, rfl, vw_cell e⟩
theorem zq_wk {QI : List D → (Kap → Prop) → Kap → Prop} {κ : Kap} {x y : D} {xs ys : List D} {n : Nat} (hx : Wk κ x xs) (hy : Wk κ y ys) (h1 : xs.length = n) (h2 : ys.length = n) (h : ∀ gd : Kap → Prop, (∀ κ', Fa κ κ' → gd κ') → QI (zipD [xs, ys] n) gd κ) : zQ QI [x, y] κ := by
  obtain ⟨k1, b1, z1, v1⟩ := wk_zip hx
  obtain ⟨k2, b2, z2, v2⟩ := wk_zip hy
  refine ⟨.inl rfl, [(k1, b1), (k2, b2)], [xs, ys], n, rfl, rfl, ?_, ⟨_, List.mem_cons_self, h1⟩, h _ ?_⟩
  · intro j z hz
    match j, hz with
    | 0, hz => cases hz; exact ⟨_, _, _, rfl, z1, rfl, Nat.le_of_eq h1.symm, v1⟩
    | 1, hz => cases hz; exact ⟨_, _, _, rfl, z2, rfl, Nat.le_of_eq h2.symm, v2⟩
    | j + 2, hz => simp at hz
  · intro κ' f j z hz
    have vw : ∀ (d : D) (zs : List D), Wk κ d zs → view d κ' = view d κ := fun d zs w => by
      cases w with
      | lst => rfl
      | tup => rfl
      | cell e => rw [vw_cell e, vw_cell (f _ _ e)]
    match j, hz with
    | 0, hz => cases hz; exact vw _ _ hx
    | 1, hz => cases hz; exact vw _ _ hy
    | j + 2, hz => simp at hz
theorem en_wl2 {κ0 κ : Kap} {d : D} {xs : List D} {QI : List D → (Kap → Prop) → Kap → Prop} (h : WL κ0 d xs) (f : Fa κ0 κ) (q : ∀ gd : Kap → Prop, (∀ κ', Fa κ0 κ' → gd κ') → QI (enumD 0 xs) gd κ) : eQ QI [d] κ := by
  cases h with
  | lst => exact en_N (q _ fun _ _ => trivial)
  | cell e => exact en_C (f _ _ e) (q _ fun κ' f' => f' _ _ e)
theorem e_lz {as : DA} {δ : DEnv} {κ : Kap} {X : DX} {Q : DQ} (h : as δ κ X (zQ fun items _ κ' => items.length ≤ sizeLine ∧ Q (.node .lst items) κ')) : dListZip as δ κ X Q := h
section
variable {κ : Kap} {X : Str → List D → Kap → Prop} {Q : DQ}
theorem polygon_q {k m : Nat} {rows : List Rw} (h0 : rows ≠ []) (hl : rows.length ≤ 12) (hs : ∀ r ∈ rows, SzP k r.1) (hk : k ≤ 200) (hm : 1 ≤ m) (h4 : m ≤ 4) (h : ∀ n κ', κ n = none → κ' n = some (.live .lst (polI m rows)) → Fa κ κ' → Q (.cell n) κ') : sp_polygon_of [.node .lst (rows.map rwQ), .int (m : Nat)] κ X Q := by
  (unfold sp_polygon_of; refine s_sp rfl ?_; simp only [startD, List.map_cons, List.map_nil, List.length_cons, List.length_nil, Nat.zero_add, Nat.reduceAdd, Nat.reduceSub, List.replicate, List.cons_append, List.nil_append]; unfold b_polygon_of)
  (repeat walk_at "st")
  refine filled_q h0 (by omega) hs (by omega) fun d κ1 w f1 => ?_
  have hrl := ringR_len rows
  have hrs := ringR_sz hs
  unfold polI at h
  generalize ringR rows = ring at w hrl hrs h
  (repeat walk_at "st")
  refine e_nwt fun n hn => ?_
  have hn0 := hn_of f1 hn
  (repeat walk_at "st")
  refine en_wl2 w (Fa.new hn) fun gd hgd => ?_
  refine dl_ix (fun i δ κ' => (∃ a4 a5 a6 a7, δ = [some (.node .lst (rows.map rwQ)), some (.int (m : Nat)), some d, some (.cell n), a4, a5, a6, a7]) ∧ κ' n = some (.live .lst (((List.range i).flatMap (polG d0 id (cvR m) ring)).map plQ)) ∧ Fa κ1 κ') ?_ ?_ ⟨⟨_, _, _, _, rfl⟩, kset_same, Fa.new hn⟩
  · rintro δ κ' ⟨⟨a4, a5, a6, a7, rfl⟩, e, f⟩
    rw [enumD_len, List.length_map] at e
    refine ⟨hgd _ f, ?_⟩
    (repeat walk_at "st")
    exact h n κ' hn0 e (f1.trans f)
  · rintro i x δ κ' L hd hL ⟨⟨a4, a5, a6, a7, rfl⟩, e, f⟩
    rw [enumD_get, List.getElem?_map, Option.map_map, Option.map_eq_some_iff] at hd
    obtain ⟨r, hr, rfl⟩ := hd
    have hi := (List.getElem?_eq_some_iff.mp hr).1
    have hpl := pol_part (m := m) (ring := ring) i
    have hpb : i * (m + 1) ≤ 24 * 5 := Nat.mul_le_mul (by omega) (by omega)
    have hg : ring.getD i d0 = r := by
      rw [List.getD_eq_getElem?_getD, hr]
      rfl
    refine ⟨hgd _ f, ?_⟩
    show gTupD 2 _ (.node .tup [.int ((0 + i : Nat) : Int), rwQ r]) _ _ _ _
    rw [Nat.zero_add]
    obtain ⟨rp, rb⟩ := r
    have hrm : (rp, rb) ∈ ring := List.mem_of_getElem? hr
    unfold rwQ
    (repeat walk_at "st")
    have hsn : (List.range (i + 1)).flatMap (polG d0 id (cvR m) ring) = (List.range i).flatMap (polG d0 id (cvR m) ring) ++ polG d0 id (cvR m) ring i := by
      rw [List.range_succ, List.flatMap_append]
      simp only [List.flatMap_cons, List.flatMap_nil, List.append_nil]
    rw [hsn] at hL
    cases rb with
    | true =>
      have hp : polG d0 id (cvR m) ring i = [rp] := by
        unfold polG
        rw [hg, if_pos rfl]
        rfl
      rw [hp] at hL
      (repeat walk_at "st")
      refine isq_cell e ?_
      (repeat walk_at "st")
      refine f_app e (by rw [List.length_map]; omega) ?_
      (repeat walk_at "st")
      refine hL _ _ ⟨⟨_, _, _, _, rfl⟩, ?_, f.put hn⟩
      rw [kset_same, List.map_append]
      rfl
    | false =>
      have hm1 : (i + 1) % ring.length < ring.length := Nat.mod_lt _ (by omega)
      have hp : polG d0 id (cvR m) ring i = cvR m (ring.getD (prevI ring.length i) d0).1 rp (ring.getD ((i + 1) % ring.length) d0).1 := by
        unfold polG
        rw [hg, if_neg (fun z => by cases z)]
      rw [hp] at hL
      have wf := w.mono f
      have hfm : ((i : Int) + 1).fmod (ring.length : Int) = (((i + 1) % ring.length : Nat) : Int) := by
        rw [show ((i : Int) + 1) = ((i + 1 : Nat) : Int) from rfl, ← Int.ofNat_fmod]
      have hat := map_at (g := rwQ) (at_d (d := d0) hm1)
      have hpv := atI_prev (g := rwQ) (d := d0) hi
      have sp := hrs _ (List.mem_of_getElem? (at_d (d := d0) (prev_lt hi)))
      have sa := hrs _ (List.mem_of_getElem? (at_d (d := d0) hm1))
      have so := hrs _ hrm
      generalize ring.getD (prevI ring.length i) d0 = p at hL hpv sp
      generalize ring.getD ((i + 1) % ring.length) d0 = y at hL hat sa
      have hcl := cvR_len m p.1 rp y.1
      (repeat walk_at "st")
      refine f_lnW wf.wk ?_
      rw [List.length_map]
      refine f_mod (by omega) ?_
      rw [hfm]
      refine ix_wl wf (at_nat hat) ?_
      unfold rwQ
      (repeat walk_at "st")
      refine isq_cell e ?_
      (repeat walk_at "st")
      refine ix_wl wf (by exact hpv) ?_
      unfold rwQ
      (repeat walk_at "st")
      refine curve_q sp so sa hm h4 (by omega) fun n2 κ2 hn2 e2 f2 => ?_
      have e3 := f2 _ _ e
      (repeat walk_at "st")
      refine f_extV e3 (.cell e2) (by rw [List.length_map, List.length_map, hcl]; unfold sizeLine; omega) ?_
      (repeat walk_at "st")
      refine hL _ _ ⟨⟨_, _, _, _, rfl⟩, ?_, (f.trans f2).put hn⟩
      rw [kset_same, List.map_append]
end



section
variable {κ : Kap} {X : Str → List D → Kap → Prop} {Q : DQ}
theorem polygons_q {k m : Nat} {pl en tr : D} {rws : List (List Rw)} (wp : Wk κ pl (rws.flatten.map fun r => plQ r.1)) (we : Wk κ en ((endsL rws).map D.int)) (wt : Wk κ tr (rws.flatten.map fun r => .bl r.2)) (h0 : ∀ r ∈ rws, r ≠ [] ∧ r.length ≤ 12) (hl : rws.length ≤ 4) (hs : ∀ r ∈ rws, ∀ x ∈ r, SzP k x.1) (hk : k ≤ 200) (hm : 1 ≤ m) (h4 : m ≤ 4)
    (h : ∀ n ms κ', κ n = none → n ∉ ms → (∀ m ∈ ms, κ m = none) → κ' n = some (.live .lst (ms.map D.cell)) → Cs κ' ms (rws.map (polI m)) → Fa κ κ' → Q (.cell n) κ') : sp_polygons [pl, en, tr, .int (m : Nat)] κ X Q := by
  have hfl : rws.flatten.length ≤ 48 := by
    have : ∀ l : List (List Rw), (∀ r ∈ l, r.length ≤ 12) → l.flatten.length ≤ 12 * l.length := fun l => by
      induction l with
      | nil => intro _; exact Nat.le_refl _
      | cons r l ih =>
        intro hr
        have h1 := ih fun x hx => hr x (List.mem_cons_of_mem _ hx)
        have h2 := hr r List.mem_cons_self
        rw [List.flatten_cons, List.length_append, List.length_cons]
        omega
    have := this rws fun r hr => (h0 r hr).2
    omega
  (unfold sp_polygons; refine s_sp rfl ?_; simp only [startD, List.map_cons, List.map_nil, List.length_cons, List.length_nil, Nat.zero_add, Nat.reduceAdd, Nat.reduceSub, List.replicate, List.cons_append, List.nil_append]; unfold b_polygons)
  (repeat walk_at "st")
  refine whole_int ?_
  rw [decide_eq_true (show (1 : Int) ≤ (m : Nat) ∧ ((m : Nat) : Int) ≤ 4 by omega)]
  (repeat walk_at "st")
  refine e_lz ?_
  (repeat walk_at "st")
  refine zq_wk (n := rws.flatten.length) wp wt (by rw [List.length_map]) (by rw [List.length_map]) fun gd hgd => ?_
  clear gd hgd
  rw [zip_rw]
  refine ⟨by rw [List.length_map]; unfold sizeLine; omega, ?_⟩
  (repeat walk_at "st")
  refine e_nwt fun n hn => ?_
  (repeat walk_at "st")
  refine q_wk2 we (Fa.new hn) fun gd hgd => ?_
  refine dl_ix (fun i δ κ' => (∃ a7, δ = [some pl, some en, some tr, some (.int (m : Nat)), some (.node .lst (rws.flatten.map rwQ)), some (.cell n), some (.int (((rws.take i).flatten.length : Nat) : Int)), a7]) ∧ Fa κ κ' ∧ ∃ ms, κ' n = some (.live .lst (ms.map D.cell)) ∧ n ∉ ms ∧ (∀ m ∈ ms, κ m = none) ∧ Cs κ' ms ((rws.take i).map (polI m))) ?_ ?_ ⟨⟨_, rfl⟩, Fa.new hn, [], kset_same, List.not_mem_nil, fun m h => absurd h List.not_mem_nil, Cs.nil⟩
  · rintro δ κ' ⟨⟨a7, rfl⟩, f, ms, e, hni, hms, C⟩
    have el : ((endsL rws).map D.int).length = rws.length := by
      unfold endsL
      rw [List.length_map, List.length_map, List.length_range]
    rw [el, List.take_length] at C
    refine ⟨hgd _ f, ?_⟩
    (repeat walk_at "st")
    exact h n ms κ' hn hni hms e C f
  · rintro i d δ κ' L hd hL ⟨⟨a7, rfl⟩, f, ms, e, hni, hms, C⟩
    have hi : i < rws.length := by
      have := (List.getElem?_eq_some_iff.mp hd).1
      unfold endsL at this
      rw [List.length_map, List.length_map, List.length_range] at this
      exact this
    have ed : d = .int ((((rws.take (i + 1)).flatten.length : Nat) : Int) - 1) := by
      unfold endsL at hd
      rw [List.getElem?_map, List.getElem?_map, List.getElem?_range hi] at hd
      cases hd
      rfl
    subst ed
    have hr := List.getElem?_eq_getElem hi
    generalize rws[i] = r at hr
    have hrm : r ∈ rws := List.mem_of_getElem? hr
    have hfs := flat_succ hr
    have hfc := flat_cut hr
    have hle := flat_le rws (i + 1)
    have hle0 := flat_le rws i
    have hsn : rws.take (i + 1) = rws.take i ++ [r] := by rw [List.take_succ, hr]; rfl
    have hlen : (rws.take (i + 1)).flatten.length = (rws.take i).flatten.length + r.length := by rw [hfs, List.length_append]
    rw [hlen] at hL hle ⊢
    rw [hsn, List.map_append] at hL
    refine ⟨hgd _ f, ?_⟩
    (repeat walk_at "st")
    refine isq_cell e ?_
    (repeat walk_at "st")
    rw [show ((((rws.take i).flatten.length + r.length : Nat) : Int) - 1 + 1) = (((rws.take i).flatten.length + r.length : Nat) : Int) by omega]
    rw [cut_two (by rw [List.length_map]; omega) (by rw [List.length_map]; omega), ← List.map_drop, ← List.map_take, Nat.add_sub_cancel_left, hfc]
    refine polygon_q (h0 r hrm).1 (h0 r hrm).2 (hs r hrm) hk hm h4 fun n2 κ2 hn2 e2 f2 => ?_
    have e3 := f2 _ _ e
    have hml : ms.length ≤ 4 := by
      rw [C.1, List.length_map, List.length_take]
      omega
    (repeat walk_at "st")
    refine f_app e3 (by rw [List.length_map]; omega) ?_
    (repeat walk_at "st")
    rw [show ((((rws.take i).flatten.length + r.length : Nat) : Int) - 1 + 1) = (((rws.take i).flatten.length + r.length : Nat) : Int) by omega]
    have hn20 := hn_of f hn2
    have hne : n2 ≠ n := fun z => by
      rw [z, e] at hn2
      cases hn2
    have C2 := C.snoc f2 hn2 e2
    refine hL _ _ ⟨⟨_, rfl⟩, (f.trans f2).put hn, ms ++ [n2], ?_, ?_, ?_, ?_⟩
    · rw [kset_same, List.map_append]
      rfl
    · intro z
      rcases List.mem_append.mp z with z | z
      · exact hni z
      · exact hne (List.mem_singleton.mp z).symm
    · intro x hx
      rcases List.mem_append.mp hx with z | z
      · exact hms x z
      · rw [List.mem_singleton.mp z]
        exact hn20
    · refine C2.mono fun x hx c hc => ?_
      rw [kset_ne fun z => ?_]
      · exact hc
      · rw [z] at hx
        rcases List.mem_append.mp hx with z | z
        · exact hni z
        · exact hne (List.mem_singleton.mp z).symm
end



abbrev Pb := Pt × Bool
def ptD (p : Pb) : D := .node .tup [.int p.1.1, .int p.1.2, .bl p.2]
def rdD (r : List Pb) : D := .node .tup (r.map ptD)
def Sf (p : Pb) : Prop := p.1.1.natAbs ≤ 99999 ∧ p.1.2.natAbs ≤ 99999
/-- an outline of these rounds -/
def obD (rows : List (List Pb)) : D := .node (.obj "Outline" ["kept_rounds"]) [.node .tup (rows.map rdD)]
/-- rounds, each a list in a cell or not -/
def RwP (κ : Kap) (d : D) (rows : List (List Pb)) : Prop := ∃ xs, WL κ d xs ∧ xs.length = rows.length ∧ ∀ (j : Nat) (r : List Pb), rows[j]? = some r → ∃ e, xs[j]? = some e ∧ WL κ e (r.map ptD)
theorem RwP.mono {κ κ' : Kap} {d : D} {rows : List (List Pb)} (h : RwP κ d rows) (f : Fa κ κ') : RwP κ' d rows := by
  obtain ⟨xs, w, hl, hx⟩ := h
  refine ⟨xs, w.mono f, hl, fun j r hr => ?_⟩
  obtain ⟨e, h1, h2⟩ := hx j r hr
  exact ⟨e, h1, h2.mono f⟩
theorem RwP.at {κ : Kap} {d : D} {rows : List (List Pb)} (h : RwP κ d rows) : ∃ xs, WL κ d xs ∧ xs.length = rows.length ∧ ∀ (j : Nat) (e : D), xs[j]? = some e → ∃ r, rows[j]? = some r ∧ WL κ e (r.map ptD) := by
  obtain ⟨xs, w, hl, hx⟩ := h
  refine ⟨xs, w, hl, fun j e he => ?_⟩
  have hj := (List.getElem?_eq_some_iff.mp he).1
  rw [hl] at hj
  have hr := List.getElem?_eq_getElem hj
  obtain ⟨e', h1, h2⟩ := hx j _ hr
  rw [he] at h1
  cases h1
  exact ⟨_, hr, h2⟩
structure Ow (rows : List (List Pb)) : Prop where
  l0 : 1 ≤ rows.length
  l4 : rows.length ≤ 4
  rl : ∀ r ∈ rows, 3 ≤ r.length ∧ r.length ≤ 12
  pt : ∀ r ∈ rows, ∀ p ∈ r, Sf p
section
variable {δ : DEnv} {κ : Kap} {X : DX} {Q : DQ} {a v : DE} {as : DA} {c f m : Str} {n : DEnv → Kap → Prop} {rt : DQ} {bk ct : DEnv → Kap → Prop} {ns : List Str} {xs : List D} {sp : DSp} {tab : List (Str × DSp)}
theorem e_fld (h : a δ κ X fun x κ1 => ∃ ns xs d, view x κ1 = some (.obj c ns, xs) ∧ lookN ns xs f = some d ∧ Q d κ1) : dFld c f a δ κ X Q := h
theorem o_fld {d : D} (hn : lookN ns xs f = some d) (q : Q d κ) : ∃ ns' xs' d', view (.node (.obj c ns) xs) κ = some (.obj c ns', xs') ∧ lookN ns' xs' f = some d' ∧ Q d' κ := ⟨_, _, _, rfl, hn, q⟩
theorem s_fld (h : v δ κ X fun y κ1 => a δ κ1 X fun x κ2 => ∃ n' ns xs, x = .cell n' ∧ κ2 n' = some (.live (.obj c ns) xs) ∧ ns.length < 1000 ∧ n δ (kset κ2 n' (.live (.obj c (putN f ns)) (putX f y ns xs)))) : sFldD c f v a δ κ X ⟨n, rt, bk, ct⟩ := h
theorem e_met (h : a δ κ X fun x κ1 => ∃ c sp ns ys, view x κ1 = some (.obj c ns, ys) ∧ (c, sp) ∈ tab ∧ lookN ns ys m = none ∧ as δ κ1 X fun xs κ2 => sp (x :: xs) κ2 (X δ) Q) : dMet m tab a as δ κ X Q := h
theorem o_met {x : D} {R : DSp → Prop} {sp : DSp} (c : Str) (ns : List Str) (xs : List D) (hv : view x κ = some (.obj c ns, xs)) (hn : lookN ns xs m = none) (q : R sp) : ∃ c' sp' ns' ys, view x κ = some (.obj c' ns', ys) ∧ (c', sp') ∈ [(c, sp)] ∧ lookN ns' ys m = none ∧ R sp' := ⟨_, _, _, _, hv, List.mem_cons_self, hn, q⟩
theorem e_mkO {b : Bool} (h : as δ κ X fun xs κ1 => ∀ n, κ1 n = none → sp (.cell n :: xs) (kset κ1 n (.live (.obj c []) [])) (X δ) (mkQ c b n Q)) : dMkO c b sp as δ κ X Q := h
theorem e_slT {lo hi : DO} (h : a δ κ X fun x κ1 => lo δ κ1 X fun i κ2 => hi δ κ2 X fun j κ3 => fSlT x i j κ3 Q) : dSlT a lo hi δ κ X Q := h
theorem sl_T {ys : List D} {lo hi : Option Int} (h : Q (.node .tup (cutD ys lo hi)) κ) : fSlT (.node .tup ys) lo hi κ Q := ⟨ys, rfl, h⟩
theorem tp_wl {d : D} {ys : List D} (w : WL κ d ys) (h : Q (.node .tup ys) κ) : fTup d κ Q := by
  cases w with
  | lst => exact tp_L h
  | cell e => exact tp_C e h
end
section
variable {κ : Kap} {X : Str → List D → Kap → Prop} {Q : DQ}
theorem isi_lt {d : D} {xs : List D} (w : Wk κ d xs) (h : Q (.bl true) κ) : fIsi kt [d, .node .tup [.ty "list", .ty "tuple"]] κ Q := by
  cases w with
  | lst => exact ⟨_, _, rfl, by decide +kernel, h⟩
  | tup => exact ⟨_, _, rfl, by decide +kernel, h⟩
  | cell e => exact ⟨_, _, ty_cell e, by decide +kernel, h⟩
theorem is_list_yes {d : D} {xs : List D} {lo hi : Int} (w : Wk κ d xs) (h0 : lo ≤ xs.length) (h1 : (xs.length : Int) ≤ hi) (h : Q (.bl true) κ) : sp_is_list [d, .int lo, .int hi] κ X Q := by
  (unfold sp_is_list; refine s_sp rfl ?_; simp only [startD, List.map_cons, List.map_nil, List.length_cons, List.length_nil, Nat.zero_add, Nat.reduceAdd, Nat.reduceSub, List.replicate, List.cons_append, List.nil_append]; unfold b_is_list)
  (repeat walk_at "st")
  refine isi_lt w ?_
  (repeat walk_at "st")
  refine f_lnW w ?_
  (repeat walk_at "st")
  rw [decide_eq_true h1]
  exact h
theorem is_point_yes {p : Pb} (hp : Sf p) (h : ∀ κ', Fa κ κ' → Q (.bl true) κ') : sp_is_point [ptD p] κ X Q := by
  obtain ⟨⟨x, y⟩, b⟩ := p
  obtain ⟨h1, h2⟩ := hp
  dsimp only at h1 h2
  (unfold sp_is_point; refine s_sp rfl ?_; simp only [startD, List.map_cons, List.map_nil, List.length_cons, List.length_nil, Nat.zero_add, Nat.reduceAdd, Nat.reduceSub, List.replicate, List.cons_append, List.nil_append]; unfold b_is_point)
  unfold ptD
  (repeat walk_at "st")
  refine isi_in _ true rfl (by decide +kernel) ?_
  (repeat walk_at "st")
  refine isi_in _ true rfl (by decide +kernel) ?_
  (repeat walk_at "st")
  refine e_slT ?_
  (repeat walk_at "st")
  refine sl_T ?_
  refine q_T ?_
  show ∀ n, κ n = none → lcLoop n _ _ _ _ _ _ _ [.int x, .int y] [] _
  intro n hn
  refine ⟨trivial, ?_⟩
  rw [bi_inl]
  simp only [dwipe, List.set_cons_zero, List.set_cons_succ]
  (repeat walk_at "st")
  refine whole_int ?_
  rw [decide_eq_true (show (-99999 : Int) ≤ x ∧ x ≤ 99999 by omega)]
  refine ⟨kset_same, by decide, trivial, ?_⟩
  rw [bi_inl]
  simp only [dwipe, List.set_cons_zero, List.set_cons_succ]
  (repeat walk_at "st")
  refine whole_int ?_
  rw [decide_eq_true (show (-99999 : Int) ≤ y ∧ y ≤ 99999 by omega)]
  refine ⟨kset_same, by unfold sizeLine; simp, trivial, kset_same, ?_⟩
  (repeat walk_at "st")
  refine ⟨[true, true], rfl, ?_⟩
  exact h _ (((Fa.new hn).put hn).put hn |>.put hn)
theorem need_points_q {d : D} {r : List Pb} (w : WL κ d (r.map ptD)) (h0 : 3 ≤ r.length) (h1 : r.length ≤ 12) (hp : ∀ p ∈ r, Sf p) (h : ∀ κ', Fa κ κ' → Q .non κ') : sp_need_points [d] κ X Q := by
  (unfold sp_need_points; refine s_sp rfl ?_; simp only [startD, List.map_cons, List.map_nil, List.length_cons, List.length_nil, Nat.zero_add, Nat.reduceAdd, Nat.reduceSub, List.replicate, List.cons_append, List.nil_append]; unfold b_need_points)
  (repeat walk_at "st")
  refine is_list_yes w.wk (by rw [List.length_map]; omega) (by rw [List.length_map]; omega) ?_
  (repeat walk_at "st")
  refine q_wk w.wk fun gd hgd => ?_
  refine dl_ix (fun i δ κ' => (∃ a1, δ = [some d, a1]) ∧ Fa κ κ') ?_ ?_ ⟨⟨_, rfl⟩, Fa.refl⟩
  · rintro δ κ' ⟨⟨a1, rfl⟩, f⟩
    refine ⟨hgd _ f, ?_⟩
    exact h κ' f
  · rintro i x δ κ' L hd hL ⟨⟨a1, rfl⟩, f⟩
    rw [List.getElem?_map, Option.map_eq_some_iff] at hd
    obtain ⟨p, hpi, rfl⟩ := hd
    refine ⟨hgd _ f, ?_⟩
    (repeat walk_at "st")
    refine is_point_yes (hp p (List.mem_of_getElem? hpi)) fun κ1 f1 => ?_
    (repeat walk_at "st")
    exact hL _ _ ⟨⟨_, rfl⟩, f.trans f1⟩
theorem outline_q {n : Nat} {d : D} {rows : List (List Pb)} (hn : κ n = none) (R : RwP κ d rows) (O : Ow rows) (h : ∀ κ', Fa κ κ' → Q (obD rows) κ') : sp_Outline_init [.cell n, d] (kset κ n (.live (.obj "Outline" []) [])) X (mkQ "Outline" false n Q) := by
  have R1 := R.mono (Fa.new (c := .live (.obj "Outline" []) []) hn)
  obtain ⟨xs, w, hl, hx⟩ := R1.at
  have K0 := O.l0
  have K4 := O.l4
  (unfold sp_Outline_init; refine s_sp rfl ?_; simp only [startD, List.map_cons, List.map_nil, List.length_cons, List.length_nil, Nat.zero_add, Nat.reduceAdd, Nat.reduceSub, List.replicate, List.cons_append, List.nil_append]; unfold b_Outline_init)
  (repeat walk_at "st")
  refine is_list_yes w.wk (by omega) (by omega) ?_
  (repeat walk_at "st")
  refine q_wk w.wk fun gd hgd => ?_
  refine dl_ix (fun i δ κ' => (∃ a2, δ = [some (.cell n), some d, a2]) ∧ Fa (kset κ n (.live (.obj "Outline" []) [])) κ') ?_ ?_ ⟨⟨_, rfl⟩, Fa.refl⟩
  · rintro δ κ' ⟨⟨a2, rfl⟩, f⟩
    refine ⟨hgd _ f, ?_⟩
    refine s_fld ?_
    (repeat walk_at "st")
    refine q_wk2 w.wk f fun gd2 hgd2 => ?_
    intro n2 hn2
    refine lcLoop_ix (fun j acc κ2 => acc = (rows.take j).map rdD ∧ κ2 n2 = some (.live .lst acc) ∧ Fa κ' κ2) ?_ ?_ ⟨rfl, kset_same, Fa.new hn2⟩
    · rintro acc κ2 ⟨rfl, e2, f2⟩
      refine ⟨hgd2 _ (f.trans f2), e2, ?_⟩
      rw [hl, List.take_length]
      have f3 := (f.trans f2).put (c := .dead) (hn_of f hn2)
      generalize kset κ2 n2 .dead = κ3 at f3
      (repeat walk_at "st")
      have e3 := f3 _ _ kset_same
      refine ⟨n, [], [], rfl, e3, by decide, ?_⟩
      refine ⟨rfl, ["kept_rounds"], [.node .tup (rows.map rdD)], kset_same, ?_⟩
      rw [if_neg (by decide)]
      refine h _ fun m c hc => ?_
      have hmn : m ≠ n := fun z => by
        rw [z, hn] at hc
        cases hc
      rw [kset_ne hmn, kset_ne hmn]
      exact f3 _ _ (by rw [kset_ne hmn]; exact hc)
    · rintro j x acc κ2 L hx2 hL ⟨rfl, e2, f2⟩
      obtain ⟨r, hr, wr⟩ := hx j x hx2
      refine ⟨hgd2 _ (f.trans f2), ?_⟩
      rw [bi_inl]
      simp only [dwipe, List.set_cons_zero, List.set_cons_succ]
      (repeat walk_at "st")
      refine tp_wl (wr.mono (f.trans f2)) ?_
      refine ⟨e2, by rw [List.length_map, List.length_take]; unfold sizeLine; omega, hL _ _ ⟨?_, kset_same, f2.put hn2⟩⟩
      rw [List.take_succ, hr, List.map_append]
      rfl
  · rintro i x δ κ' L hd hL ⟨⟨a1, rfl⟩, f⟩
    obtain ⟨r, hr, wr⟩ := hx i x hd
    have hrm := List.mem_of_getElem? hr
    refine ⟨hgd _ f, ?_⟩
    (repeat walk_at "st")
    refine need_points_q (wr.mono f) (O.rl r hrm).1 (O.rl r hrm).2 (O.pt r hrm) fun κ1 f1 => ?_
    (repeat walk_at "st")
    exact hL _ _ ⟨⟨_, rfl⟩, f.trans f1⟩
theorem ends_q {rows : List (List Pb)} (O : Ow rows) (h : ∀ n κ', κ n = none → κ' n = some (.live .lst ((endsL rows).map D.int)) → Fa κ κ' → Q (.cell n) κ') : sp_Outline_ends [obD rows] κ X Q := by
  (unfold sp_Outline_ends; refine s_sp rfl ?_; simp only [startD, List.map_cons, List.map_nil, List.length_cons, List.length_nil, Nat.zero_add, Nat.reduceAdd, Nat.reduceSub, List.replicate, List.cons_append, List.nil_append]; unfold b_Outline_ends)
  (repeat walk_at "st")
  refine e_nwt fun n hn => ?_
  (repeat walk_at "st")
  refine e_fld ?_
  unfold obD
  (repeat walk_at "st")
  refine o_fld (d := .node .tup (rows.map rdD)) rfl ?_
  (repeat walk_at "st")
  refine dl_ix (fun i δ κ' => (∃ a3, δ = [some (obD rows), some (.cell n), some (.int ((rows.take i).flatten.length : Nat)), a3]) ∧ κ' n = some (.live .lst (((endsL rows).take i).map D.int)) ∧ Fa κ κ') ?_ ?_ ⟨⟨_, rfl⟩, kset_same, Fa.new hn⟩
  · rintro δ κ' ⟨⟨a3, rfl⟩, e, f⟩
    have el : (endsL rows).length = rows.length := by
      unfold endsL
      rw [List.length_map, List.length_range]
    rw [List.length_map, ← el, List.take_length] at e
    refine ⟨trivial, ?_⟩
    (repeat walk_at "st")
    exact h n κ' hn e f
  · rintro i d δ κ' L hd hL ⟨⟨a3, rfl⟩, e, f⟩
    rw [List.getElem?_map, Option.map_eq_some_iff] at hd
    obtain ⟨r, hr, rfl⟩ := hd
    have hi := (List.getElem?_eq_some_iff.mp hr).1
    have hfl : (rows.take (i + 1)).flatten.length = (rows.take i).flatten.length + r.length := by rw [flat_succ hr, List.length_append]
    have K4 := O.l4
    refine ⟨trivial, ?_⟩
    unfold rdD
    (repeat walk_at "st")
    rw [List.length_map]
    simp only [List.set_cons_zero, List.set_cons_succ]
    refine isq_cell e ?_
    (repeat walk_at "st")
    refine f_app e (by rw [List.length_map, List.length_take]; omega) ?_
    (repeat walk_at "st")
    refine hL _ _ ⟨⟨_, by rw [hfl]; rfl⟩, ?_, f.put hn⟩
    have ha : (endsL rows)[i]? = some ((((rows.take i).flatten.length : Nat) : Int) + (r.length : Nat) - 1) := by
      unfold endsL
      rw [List.getElem?_map, List.getElem?_range hi]
      show some ((((rows.take (i + 1)).flatten.length : Nat) : Int) - 1) = _
      rw [hfl]
      rfl
    rw [kset_same, List.take_succ, ha, List.map_append]
    rfl
theorem points_q {rows : List (List Pb)} (O : Ow rows) (h : ∀ κ', Fa κ κ' → Q (.node .lst (rows.flatten.map ptD)) κ') : sp_Outline_points [obD rows] κ X Q := by
  have hfl : ∀ i, (rows.take i).flatten.length ≤ 48 := fun i => by
    have key : ∀ l : List (List Pb), (∀ r ∈ l, r.length ≤ 12) → l.flatten.length ≤ 12 * l.length := fun l => by
      induction l with
      | nil => intro _; exact Nat.le_refl _
      | cons r l ih =>
        intro hr
        have h1 := ih fun x hx => hr x (List.mem_cons_of_mem _ hx)
        have h2 := hr r List.mem_cons_self
        rw [List.flatten_cons, List.length_append, List.length_cons]
        omega
    have := key rows fun r hr => (O.rl r hr).2
    have := flat_le rows i
    have := O.l4
    omega
  (unfold sp_Outline_points; refine s_sp rfl ?_; simp only [startD, List.map_cons, List.map_nil, List.length_cons, List.length_nil, Nat.zero_add, Nat.reduceAdd, Nat.reduceSub, List.replicate, List.cons_append, List.nil_append]; unfold b_Outline_points)
  (repeat walk_at "st")
  refine e_fld ?_
  unfold obD
  (repeat walk_at "st")
  refine o_fld (d := .node .tup (rows.map rdD)) rfl ?_
  (repeat walk_at "st")
  intro n hn
  refine cl_ix (fun i κ' => κ' n = some (.live .lst ((rows.take i).flatten.map ptD)) ∧ Fa κ κ') ?_ ?_ ⟨kset_same, Fa.new hn⟩
  · rintro κ' ⟨e, f⟩
    rw [List.length_map, List.take_length] at e
    exact ⟨trivial, _, e, h _ (f.put hn)⟩
  · rintro i d κ' L hd hL ⟨e, f⟩
    rw [List.getElem?_map, Option.map_eq_some_iff] at hd
    obtain ⟨r, hr, rfl⟩ := hd
    refine ⟨trivial, ?_⟩
    rw [bi_inl]
    simp only [dwipe, List.set_cons_zero, List.set_cons_succ]
    unfold rdD
    (repeat walk_at "st")
    refine cl_ix (fun j κ2 => κ2 n = some (.live .lst (((rows.take i).flatten ++ r.take j).map ptD)) ∧ Fa κ κ2) ?_ ?_ ⟨by rw [List.take_zero, List.append_nil]; exact e, f⟩
    · rintro κ2 ⟨e2, f2⟩
      rw [List.length_map, List.take_length, ← flat_succ hr] at e2
      exact ⟨trivial, hL _ ⟨e2, f2⟩⟩
    · rintro j d κ2 L2 hd2 hL2 ⟨e2, f2⟩
      rw [List.getElem?_map, Option.map_eq_some_iff] at hd2
      obtain ⟨p, hp, rfl⟩ := hd2
      have hb := (O.rl r (List.mem_of_getElem? hr)).2
      have := hfl i
      refine ⟨trivial, ?_⟩
      rw [bi_inl]
      simp only [dwipe, List.set_cons_zero, List.set_cons_succ]
      (repeat walk_at "st")
      refine ⟨_, e2, by rw [List.length_map, List.length_append, List.length_take]; unfold sizeLine; omega, hL2 _ ⟨?_, f2.put hn⟩⟩
      rw [kset_same, List.take_succ, hp]
      simp only [List.map_append, List.append_assoc, Option.toList, List.map_cons, List.map_nil]
theorem truths_q {rows : List (List Pb)} (O : Ow rows) (h : ∀ κ', Fa κ κ' → Q (.node .lst (rows.flatten.map fun p => .bl p.2)) κ') : sp_Outline_truths [obD rows] κ X Q := by
  have hfl : rows.flatten.length ≤ 48 := by
    have key : ∀ l : List (List Pb), (∀ r ∈ l, r.length ≤ 12) → l.flatten.length ≤ 12 * l.length := fun l => by
      induction l with
      | nil => intro _; exact Nat.le_refl _
      | cons r l ih =>
        intro hr
        have h1 := ih fun x hx => hr x (List.mem_cons_of_mem _ hx)
        have h2 := hr r List.mem_cons_self
        rw [List.flatten_cons, List.length_append, List.length_cons]
        omega
    have := key rows fun r hr => (O.rl r hr).2
    have := O.l4
    omega
  (unfold sp_Outline_truths; refine s_sp rfl ?_; simp only [startD, List.map_cons, List.map_nil, List.length_cons, List.length_nil, Nat.zero_add, Nat.reduceAdd, Nat.reduceSub, List.replicate, List.cons_append, List.nil_append]; unfold b_Outline_truths)
  (repeat walk_at "st")
  refine e_met ?_
  (repeat walk_at "st")
  refine o_met "Outline" ["kept_rounds"] [.node .tup (rows.map rdD)] rfl rfl ?_
  (repeat walk_at "st")
  refine points_q O fun κ1 f1 => ?_
  (repeat walk_at "st")
  intro n hn
  refine lcLoop_ix (fun j acc κ2 => acc = (rows.flatten.take j).map (fun p => D.bl p.2) ∧ κ2 n = some (.live .lst acc) ∧ Fa κ1 κ2) ?_ ?_ ⟨rfl, kset_same, Fa.new hn⟩
  · rintro acc κ2 ⟨rfl, e, f⟩
    rw [List.length_map, List.take_length] at e ⊢
    exact ⟨trivial, e, h _ (f1.trans (f.put hn))⟩
  · rintro j x acc κ2 L hx hL ⟨rfl, e, f⟩
    rw [List.getElem?_map, Option.map_eq_some_iff] at hx
    obtain ⟨p, hp, rfl⟩ := hx
    refine ⟨trivial, ?_⟩
    unfold ptD
    rw [bi_inr rfl]
    simp only [dwipe, List.set_cons_zero, List.set_cons_succ]
    (repeat walk_at "st")
    refine ⟨e, by rw [List.length_map, List.length_take]; unfold sizeLine; omega, hL _ _ ⟨?_, kset_same, f.put hn⟩⟩
    rw [List.take_succ, hp, List.map_append]
    rfl
theorem places_q {rows : List (List Pb)} (O : Ow rows) (h : ∀ κ', Fa κ κ' → Q (.node .lst (rows.flatten.map fun p => prD p.1)) κ') : sp_Outline_places [obD rows] κ X Q := by
  have hfl : rows.flatten.length ≤ 48 := by
    have key : ∀ l : List (List Pb), (∀ r ∈ l, r.length ≤ 12) → l.flatten.length ≤ 12 * l.length := fun l => by
      induction l with
      | nil => intro _; exact Nat.le_refl _
      | cons r l ih =>
        intro hr
        have h1 := ih fun x hx => hr x (List.mem_cons_of_mem _ hx)
        have h2 := hr r List.mem_cons_self
        rw [List.flatten_cons, List.length_append, List.length_cons]
        omega
    have := key rows fun r hr => (O.rl r hr).2
    have := O.l4
    omega
  (unfold sp_Outline_places; refine s_sp rfl ?_; simp only [startD, List.map_cons, List.map_nil, List.length_cons, List.length_nil, Nat.zero_add, Nat.reduceAdd, Nat.reduceSub, List.replicate, List.cons_append, List.nil_append]; unfold b_Outline_places)
  (repeat walk_at "st")
  refine e_met ?_
  (repeat walk_at "st")
  refine o_met "Outline" ["kept_rounds"] [.node .tup (rows.map rdD)] rfl rfl ?_
  (repeat walk_at "st")
  refine points_q O fun κ1 f1 => ?_
  (repeat walk_at "st")
  intro n hn
  refine lcLoop_ix (fun j acc κ2 => acc = (rows.flatten.take j).map (fun p => prD p.1) ∧ κ2 n = some (.live .lst acc) ∧ Fa κ1 κ2) ?_ ?_ ⟨rfl, kset_same, Fa.new hn⟩
  · rintro acc κ2 ⟨rfl, e, f⟩
    rw [List.length_map, List.take_length] at e ⊢
    exact ⟨trivial, e, h _ (f1.trans (f.put hn))⟩
  · rintro j x acc κ2 L hx hL ⟨rfl, e, f⟩
    rw [List.getElem?_map, Option.map_eq_some_iff] at hx
    obtain ⟨p, hp, rfl⟩ := hx
    refine ⟨trivial, ?_⟩
    unfold ptD
    rw [bi_inr rfl]
    simp only [dwipe, List.set_cons_zero, List.set_cons_succ]
    (repeat walk_at "st")
    refine ⟨e, by rw [List.length_map, List.length_take]; unfold sizeLine; omega, hL _ _ ⟨?_, kset_same, f.put hn⟩⟩
    rw [List.take_succ, hp, List.map_append]
    rfl
end



theorem Fa.fr' {b : Nat} {κ κ' : Kap} (f : Fa κ κ') : Fr b κ κ' := fun n c _ e => f n c e
theorem By.fa' {b m : Nat} {κ κ' : Kap} (h : By b m κ) (f : Fa κ κ') : By b m κ' := let ⟨x, y, u, z, h1, h2⟩ := h; ⟨x, y, u, z, f _ _ h1, h2⟩
theorem hn_fr {b : Nat} {κ κ' : Kap} (f : Fr b κ κ') {n : Nat} (hb : n ≠ b) (h : κ' n = none) : κ n = none := by
  cases e : κ n with
  | none => rfl
  | some c => rw [f _ _ hb e] at h; cases h
theorem Cs.snoc' {κ κ' : Kap} {ms : List Nat} {yss : List (List D)} {m : Nat} {ys : List D} (h : Cs κ ms yss) (f : ∀ x ∈ ms, ∀ c, κ x = some c → κ' x = some c) (hm : κ m = none) (e : κ' m = some (.live .lst ys)) : Cs κ' (ms ++ [m]) (yss ++ [ys]) := by
  refine ⟨by rw [List.length_append, List.length_append, h.1]; rfl, ?_, ?_⟩
  · rw [List.nodup_append]
    refine ⟨h.2.1, by simp, fun a ha b hb z => ?_⟩
    obtain ⟨zs, hz⟩ := h.is ha
    rw [List.mem_singleton.mp hb] at z
    rw [z, hm] at hz
    cases hz
  · intro j k zs h1 h2
    by_cases hj : j < ms.length
    · rw [List.getElem?_append_left hj] at h1
      rw [List.getElem?_append_left (by rw [← h.1]; exact hj)] at h2
      exact f _ (List.mem_of_getElem? h1) _ (h.2.2 j k zs h1 h2)
    · have hj1 := (List.getElem?_eq_some_iff.mp h1).1
      rw [List.length_append, List.length_cons, List.length_nil] at hj1
      have ej : j = ms.length := by omega
      subst ej
      rw [List.getElem?_append_right (Nat.le_refl _), Nat.sub_self] at h1
      rw [List.getElem?_append_right (by rw [h.1]; exact Nat.le_refl _), h.1, Nat.sub_self] at h2
      cases h1
      cases h2
      exact e
theorem Cs.rows {κ : Kap} {n : Nat} {ms : List Nat} {rows : List (List Pb)} (C : Cs κ ms (rows.map fun r => r.map ptD)) (e : κ n = some (.live .lst (ms.map D.cell))) : RwP κ (.cell n) rows := by
  refine ⟨_, .cell e, by rw [List.length_map, C.1, List.length_map], fun j r hr => ?_⟩
  have hj := (List.getElem?_eq_some_iff.mp hr).1
  have hjm : j < ms.length := by
    rw [C.1, List.length_map]
    exact hj
  refine ⟨.cell ms[j], by rw [List.getElem?_map, List.getElem?_eq_getElem hjm]; rfl, .cell ?_⟩
  exact C.2.2 j _ _ (List.getElem?_eq_getElem hjm) (by rw [List.getElem?_map, hr]; rfl)
theorem f_ixM {κ : Kap} {Q : DQ} {xs : List D} {i : Int} (h0 : 0 ≤ i) (h1 : i < xs.length) (h : ∀ d ∈ xs, Q d κ) : fIx (.node .lst xs) (.int i) κ Q := ix_mem h0 h1 h
section
variable {κ : Kap} {X : Str → List D → Kap → Prop} {Q : DQ}
theorem rounds_q {b m : Nat} (hB : By b m κ) (hm : m + 300 ≤ 2 ^ 20) (h : ∀ (n : Nat) (κ' : Kap) (ms : List Nat) (rows : List (List Pb)), κ n = none → n ≠ b → n ∉ ms → b ∉ ms → κ' n = some (.live .lst (ms.map D.cell)) → Cs κ' ms (rows.map fun r => r.map ptD) → Ow rows → By b (m + 300) κ' → Fr b κ κ' → Q (.cell n) κ') : sp__law_rounds [.cell b] κ X Q := by
  (unfold sp__law_rounds; refine s_sp rfl ?_; simp only [startD, List.map_cons, List.map_nil, List.length_cons, List.length_nil, Nat.zero_add, Nat.reduceAdd, Nat.reduceSub, List.replicate, List.cons_append, List.nil_append]; unfold b__law_rounds)
  (repeat walk_at "st")
  refine e_nwt fun n hn => ?_
  have hnb := hB.ne hn
  have B0 : By b m (kset κ n (.live .lst [])) := hB.set hnb
  have F0 : Fr b κ (kset κ n (.live .lst [])) := Fr.set hn
  have E0 : (kset κ n (.live .lst [])) n = some (.live .lst []) := kset_same
  generalize kset κ n (.live .lst []) = κ0 at B0 F0 E0
  (repeat walk_at "st")
  refine take_spec B0 (by omega) (by decide) (by decide) fun t1 κ1 t10 t11 B1 f1 => ?_
  (repeat walk_at "st")
  refine take_spec B1 (by omega) (by decide) (by decide) fun t2 κ2 t20 t21 B2 f2 => ?_
  have E2 := f2 _ _ hnb (f1 _ _ hnb E0)
  have F2 := F0.trans (f1.trans f2)
  clear f1 f2 B0 F0 E0 B1
  refine f_ixM t20 (by simp only [List.length_cons, List.length_nil]; omega) fun d hd => ?_
  have hd' : ∃ N : Nat, d = .int (N : Nat) ∧ 1 ≤ N ∧ N ≤ 4 := by
    simp only [List.mem_cons, List.not_mem_nil, or_false] at hd
    rcases hd with rfl | rfl | rfl
    · exact ⟨1, rfl, by decide, by decide⟩
    · exact ⟨(1 + t1).toNat, by rw [Int.toNat_of_nonneg (by omega)], by omega, by omega⟩
    · exact ⟨4, rfl, by decide, by decide⟩
  obtain ⟨N, rfl, N1, N4⟩ := hd'
  clear hd
  (repeat walk_at "st")
  rw [show (((N : Nat) : Int)).toNat = N by omega]
  refine dl_ix (fun i δ κ' => (∃ a2 a3 a4 a5 a6 a7 a8, δ = [some (.cell b), some (.cell n), a2, a3, a4, a5, a6, a7, a8]) ∧ (∃ (ms : List Nat) (rows : List (List Pb)), κ' n = some (.live .lst (ms.map D.cell)) ∧ n ∉ ms ∧ b ∉ ms ∧ Cs κ' ms (rows.map fun r => r.map ptD) ∧ rows.length = i ∧ (∀ r ∈ rows, (3 ≤ r.length ∧ r.length ≤ 12) ∧ ∀ p ∈ r, Sf p)) ∧ By b (m + 2 + 60 * i) κ' ∧ Fr b κ κ') ?_ ?_
    ⟨⟨_, _, _, _, _, _, _, rfl⟩, ⟨[], [], E2, List.not_mem_nil, List.not_mem_nil, Cs.nil, rfl, fun r hr => absurd hr List.not_mem_nil⟩, B2, F2⟩
  · rintro δ κ' ⟨⟨a2, a3, a4, a5, a6, a7, a8, rfl⟩, ⟨ms, rows, e, hni, hbi, C, hl, hr⟩, B, f⟩
    rw [rangeD_len] at hl B
    refine ⟨trivial, ?_⟩
    (repeat walk_at "st")
    exact h n κ' ms rows hn hnb hni hbi e C ⟨by omega, by omega, fun r h => (hr r h).1, fun r h => (hr r h).2⟩ (B.mono (by omega)) f
  · rintro i d δ κ' L hd hL ⟨⟨a2, a3, a4, a5, a6, a7, a8, rfl⟩, ⟨ms, rows, e, hni, hbi, C, hl, hr⟩, B, f⟩
    obtain ⟨hi, rfl⟩ := rangeD_get hd
    refine ⟨trivial, ?_⟩
    (repeat walk_at "st")
    refine take_spec B (by omega) (by decide) (by decide) fun t3 κ3 t30 t31 B3 f3 => ?_
    (repeat walk_at "st")
    refine take_spec B3 (by omega) (by decide) (by decide) fun t4 κ4 t40 t41 B4 f4 => ?_
    refine f_ixM t40 (by simp only [List.length_cons, List.length_nil]; omega) fun d hd => ?_
    have hd' : ∃ N : Nat, d = .int (N : Nat) ∧ 3 ≤ N ∧ N ≤ 12 := by
      simp only [List.mem_cons, List.not_mem_nil, or_false] at hd
      rcases hd with rfl | rfl | rfl
      · exact ⟨3, rfl, by decide, by decide⟩
      · exact ⟨(3 + t3).toNat, by rw [Int.toNat_of_nonneg (by omega)], by omega, by omega⟩
      · exact ⟨12, rfl, by decide, by decide⟩
    obtain ⟨M, rfl, M3, M12⟩ := hd'
    clear hd
    (repeat walk_at "st")
    refine take_spec B4 (by omega) (by decide) (by decide) fun t5 κ5 t50 t51 B5 f5 => ?_
    refine f_ixM t50 (by simp only [List.length_cons, List.length_nil]; omega) fun d hd => ?_
    have hd' : ∃ w : Int, d = .int w ∧ 7 ≤ w ∧ w ≤ 199999 := by
      simp only [List.mem_cons, List.not_mem_nil, or_false] at hd
      rcases hd with rfl | rfl | rfl
      · exact ⟨_, rfl, by decide, by decide⟩
      · exact ⟨_, rfl, by decide, by decide⟩
      · exact ⟨_, rfl, by decide, by decide⟩
    obtain ⟨w, rfl, w7, w19⟩ := hd'
    clear hd
    (repeat walk_at "st")
    refine take_spec B5 (by omega) (by decide) (by decide) fun t6 κ6 t60 t61 B6 f6 => ?_
    have e6 := f6 _ _ hnb (f5 _ _ hnb (f4 _ _ hnb (f3 _ _ hnb e)))
    have C6 : Cs κ6 ms (rows.map fun r => r.map ptD) := C.mono fun x hx c hc => by
      have hxb : x ≠ b := fun z => hbi (z ▸ hx)
      exact f6 _ _ hxb (f5 _ _ hxb (f4 _ _ hxb (f3 _ _ hxb hc)))
    have F6 := f.trans (f3.trans (f4.trans (f5.trans f6)))
    clear f3 f4 f5 f6 B3 B4 B5 C e f B
    (repeat walk_at "st")
    refine e_nwt fun n2 hn2 => ?_
    have hnb2 := B6.ne hn2
    have hnn : n2 ≠ n := fun z => by
      rw [z, e6] at hn2
      cases hn2
    have hn20 := hn_fr F6 hnb2 hn2
    (repeat walk_at "st")
    rw [show (((M : Nat) : Int)).toNat = M by omega]
    refine dl_ix (fun j δ κ' => (∃ a7 a8, δ = [some (.cell b), some (.cell n), some (.int (0 + (i : Nat))), some (.int (M : Nat)), some (.int w), some (.int t6), some (.cell n2), a7, a8]) ∧ (∃ ps : List Pb, κ' n2 = some (.live .lst (ps.map ptD)) ∧ ps.length = j ∧ ∀ p ∈ ps, Sf p) ∧ By b (m + 6 + 60 * i + 4 * j) κ' ∧ Fr b κ6 κ') ?_ ?_ ⟨⟨_, _, rfl⟩, ⟨[], kset_same, rfl, fun p hp => absurd hp List.not_mem_nil⟩, (B6.set hnb2).mono (by omega), Fr.set hn2⟩
    · rintro δ κ' ⟨⟨a7, a8, rfl⟩, ⟨ps, e2, hpl, hps⟩, B7, f7⟩
      rw [rangeD_len] at hpl B7
      have e7 := f7 _ _ hnb e6
      have C7 : Cs κ' ms (rows.map fun r => r.map ptD) := C6.mono fun x hx c hc => f7 _ _ (fun z => hbi (z ▸ hx)) hc
      have C8 := C6.snoc' (fun x hx c hc => f7 _ _ (fun z => hbi (z ▸ hx)) hc) hn2 e2
      have hml : ms.length ≤ 4 := by
        rw [C7.1, List.length_map, hl]
        omega
      refine ⟨trivial, ?_⟩
      (repeat walk_at "st")
      refine isq_cell e7 ?_
      (repeat walk_at "st")
      refine f_app e7 (by rw [List.length_map]; omega) ?_
      (repeat walk_at "st")
      refine hL _ _ ⟨⟨_, _, _, _, _, _, _, rfl⟩, ⟨ms ++ [n2], rows ++ [ps], ?_, ?_, ?_, ?_, by rw [List.length_append, hl]; rfl, ?_⟩, (B7.set hnb.symm.symm).mono (by omega), (F6.trans f7).put hn⟩
      · rw [kset_same, List.map_append]
        rfl
      · intro z
        rcases List.mem_append.mp z with z | z
        · exact hni z
        · exact hnn (List.mem_singleton.mp z).symm
      · intro z
        rcases List.mem_append.mp z with z | z
        · exact hbi z
        · exact hnb2 (List.mem_singleton.mp z).symm
      · rw [List.map_append]
        refine C8.mono fun x hx c hc => ?_
        rw [kset_ne fun z => ?_]
        · exact hc
        · rw [z] at hx
          rcases List.mem_append.mp hx with z | z
          · exact hni z
          · exact hnn (List.mem_singleton.mp z).symm
      · intro r hr'
        rcases List.mem_append.mp hr' with z | z
        · exact hr r z
        · rw [List.mem_singleton.mp z, hpl]
          exact ⟨⟨M3, M12⟩, hps⟩
    · rintro j d δ κ' L2 hd hL2 ⟨⟨a7, a8, rfl⟩, ⟨ps, e2, hpl, hps⟩, B7, f7⟩
      obtain ⟨hj, rfl⟩ := rangeD_get hd
      refine ⟨trivial, ?_⟩
      (repeat walk_at "st")
      refine take_spec B7 (by omega) (by decide) (by decide) fun t7 κ8 t70 t71 B8 f8 => ?_
      (repeat walk_at "st")
      refine take_spec B8 (by omega) (by decide) (by decide) fun t8 κ9 t80 t81 B9 f9 => ?_
      (repeat walk_at "st")
      refine f_ixM t60 (by simp only [List.length_cons, List.length_nil]; omega) fun d hd => ?_
      have hd' : ∃ on : Bool, d = .bl on := by
        simp only [List.mem_cons, List.not_mem_nil, or_false] at hd
        rcases hd with rfl | rfl | rfl | rfl <;> exact ⟨_, rfl⟩
      obtain ⟨on, rfl⟩ := hd'
      clear hd
      have e9 := f9 _ _ hnb2 (f8 _ _ hnb2 e2)
      (repeat walk_at "st")
      refine isq_cell e9 ?_
      (repeat walk_at "st")
      refine take_spec B9 (by omega) (by omega) (by omega) fun x κ10 x0 x1 B10 f10 => ?_
      (repeat walk_at "st")
      refine take_spec B10 (by omega) (by omega) (by omega) fun y κ11 y0 y1 B11 f11 => ?_
      have e11 := f11 _ _ hnb2 (f10 _ _ hnb2 e9)
      have F11 := f7.trans (f8.trans (f9.trans (f10.trans f11)))
      have hw : w.fdiv 2 = w / 2 := Int.fdiv_eq_ediv_of_nonneg _ (by decide)
      (repeat walk_at "st")
      refine f_app (d := ptD ((x - w.fdiv 2, y - w.fdiv 2), on)) e11 (by rw [List.length_map]; omega) ?_
      (repeat walk_at "st")
      refine hL2 _ _ ⟨⟨_, _, rfl⟩, ⟨ps ++ [((x - w.fdiv 2, y - w.fdiv 2), on)], ?_, by rw [List.length_append, hpl]; rfl, fun p hp => ?_⟩, (B11.set hnb2).mono (by omega), F11.put hn2⟩
      · rw [kset_same, List.map_append]
        rfl
      · rcases List.mem_append.mp hp with z | z
        · exact hps p z
        · rw [List.mem_singleton.mp z, hw]
          exact ⟨by dsimp only; omega, by dsimp only; omega⟩
end



theorem head_next {α : Type} {d f : α} {qs : List α} (hf : qs.headD d = f) {j : Nat} (hj : j < qs.length) : qs[(j + 1) % qs.length]? = some ((qs.drop (j + 1)).headD f) := by
  by_cases h : j + 1 < qs.length
  · rw [Nat.mod_eq_of_lt h, List.getElem?_eq_getElem h, List.drop_eq_getElem_cons h]
    rfl
  · have e : j + 1 = qs.length := by omega
    rw [e, Nat.mod_self, List.drop_length]
    cases qs with
    | nil => simp at hj
    | cons x r =>
      rw [← hf]
      rfl
theorem lri_len {f : Pb} : ∀ rs : List Pb, (lri f rs).length ≤ 2 * rs.length ∧ rs.length ≤ (lri f rs).length
  | [] => ⟨Nat.le_refl _, Nat.le_refl _⟩
  | r :: rs => by
    have ih := lri_len (f := f) rs
    show (_ :: ((if r.2 = false ∧ (rs.headD f).2 = false then [((r.1.1 + (rs.headD f).1.1, r.1.2 + (rs.headD f).1.2), true)] else []) ++ lri f rs)).length ≤ _ ∧ _ ≤ (_ :: ((if r.2 = false ∧ (rs.headD f).2 = false then [((r.1.1 + (rs.headD f).1.1, r.1.2 + (rs.headD f).1.2), true)] else []) ++ lri f rs)).length
    rw [List.length_cons, List.length_append, List.length_cons]
    split
    · rw [List.length_cons, List.length_nil]
      omega
    · rw [List.length_nil]
      omega
def S2 (p : Pb) : Prop := p.1.1.natAbs < 2 ^ 18 ∧ p.1.2.natAbs < 2 ^ 18
theorem lri_sz {f : Pb} (hf : Sf f) : ∀ rs : List Pb, (∀ r ∈ rs, Sf r) → ∀ r ∈ lri f rs, S2 r
  | [], _, r, h => absurd h List.not_mem_nil
  | q :: rs, hr, r, h => by
    have hq := hr q List.mem_cons_self
    have hh : Sf (rs.headD f) := by
      cases rs with
      | nil => exact hf
      | cons y ys => exact hr y (List.mem_cons_of_mem _ List.mem_cons_self)
    have h' : r ∈ ((2 * q.1.1, 2 * q.1.2), q.2) :: ((if q.2 = false ∧ (rs.headD f).2 = false then [((q.1.1 + (rs.headD f).1.1, q.1.2 + (rs.headD f).1.2), true)] else []) ++ lri f rs) := h
    obtain ⟨q1, q2⟩ := hq
    obtain ⟨g1, g2⟩ := hh
    rcases List.mem_cons.mp h' with rfl | z
    · exact ⟨by dsimp only; omega, by dsimp only; omega⟩
    · rcases List.mem_append.mp z with z | z
      · split at z
        · rw [List.mem_singleton.mp z]
          exact ⟨by dsimp only; omega, by dsimp only; omega⟩
        · exact absurd z List.not_mem_nil
      · exact lri_sz hf rs (fun x hx => hr x (List.mem_cons_of_mem _ hx)) r z
theorem lring_len (rows : List Pb) : (lringI rows).length ≤ 2 * rows.length ∧ rows.length ≤ (lringI rows).length := by
  unfold lringI
  rw [rotG_len]
  exact lri_len _
theorem lring_sz {rows : List Pb} (h : ∀ r ∈ rows, Sf r) : ∀ r ∈ lringI rows, S2 r := fun r hr => by
  have hr' := rotG_mem hr
  cases rows with
  | nil => exact absurd hr' List.not_mem_nil
  | cons x xs => exact lri_sz (h x List.mem_cons_self) _ h r hr'
section
variable {κ : Kap} {X : Str → List D → Kap → Prop} {Q : DQ}
theorem lring_q {d : D} {rows : List Pb} (w : WL κ d (rows.map ptD)) (h0 : rows ≠ []) (hl : rows.length ≤ 12) (hs : ∀ r ∈ rows, Sf r) (h : ∀ d κ', WL κ' d ((lringI rows).map ptD) → Fa κ κ' → Q d κ') : sp__law_ring [d] κ X Q := by
  (unfold sp__law_ring; refine s_sp rfl ?_; simp only [startD, List.map_cons, List.map_nil, List.length_cons, List.length_nil, Nat.zero_add, Nat.reduceAdd, Nat.reduceSub, List.replicate, List.cons_append, List.nil_append]; unfold b__law_ring)
  (repeat walk_at "st")
  refine e_nwt fun n hn => ?_
  (repeat walk_at "st")
  refine en_wl2 w (Fa.new hn) fun gd hgd => ?_
  refine dl_ix (fun i δ κ' => (∃ a2 a3 a4 a5 a6, δ = [some d, some (.cell n), a2, a3, a4, a5, a6]) ∧ (∃ acc : List Pb, κ' n = some (.live .lst (acc.map ptD)) ∧ acc ++ lri (rows.headD ((0, 0), false)) (rows.drop i) = lri (rows.headD ((0, 0), false)) rows) ∧ Fa κ κ') ?_ ?_ ⟨⟨_, _, _, _, _, rfl⟩, ⟨[], kset_same, rfl⟩, Fa.new hn⟩
  · rintro δ κ' ⟨⟨a2, a3, a4, a5, a6, rfl⟩, ⟨acc, e, ha⟩, f⟩
    rw [enumD_len, List.length_map, List.drop_length] at ha
    have ha' : acc = lri (rows.headD ((0, 0), false)) rows := by
      rw [← ha]
      exact (List.append_nil acc).symm
    subst ha'
    clear ha
    have hll := lri_len (f := rows.headD ((0, 0), false)) rows
    have hne : lri (rows.headD ((0, 0), false)) rows ≠ [] := fun z => by
      have h2 := List.length_pos_iff.mpr h0
      rw [z, List.length_nil] at hll
      omega
    refine ⟨hgd _ f, ?_⟩
    have hring : lringI rows = rotG (lri (rows.headD ((0, 0), false)) rows) := rfl
    rw [hring] at h
    generalize lri (rows.headD ((0, 0), false)) rows = ring at e hne hll h
    cases ring with
    | nil => exact absurd rfl hne
    | cons r rs =>
      (repeat walk_at "st")
      refine ix_wl (.cell e) (at_nat (n := 0) (xs := (r :: rs).map ptD) rfl) ?_
      unfold ptD
      (repeat walk_at "st")
      cases hr : r.2 with
      | true =>
        (repeat walk_at "st")
        rw [rotG_on hr] at h
        exact h _ _ (.cell e) f
      | false =>
        have hne' : (r :: rs).map ptD ≠ [] := by simp
        (repeat walk_at "st")
        refine sl_C e ?_
        (repeat walk_at "st")
        refine sl_C e ?_
        (repeat walk_at "st")
        rw [cut_drop hne', cut_take hne']
        refine f_adL (by rw [List.length_drop, List.length_take, List.length_map]; unfold sizeLine; omega) ?_
        (repeat walk_at "st")
        refine h _ _ ?_ f
        rw [rotG_off hr, List.map_append, List.map_drop, List.map_take]
        have e3 : ((r :: rs).map ptD).length - 1 = rs.length := by simp
        rw [e3]
        exact .lst
  · rintro i x δ κ' L hd hL ⟨⟨a2, a3, a4, a5, a6, rfl⟩, ⟨acc, e, ha⟩, f⟩
    rw [enumD_get, List.getElem?_map, Option.map_map, Option.map_eq_some_iff] at hd
    obtain ⟨r, hr, rfl⟩ := hd
    have hi := (List.getElem?_eq_some_iff.mp hr).1
    have hdr : rows.drop i = r :: rows.drop (i + 1) := by
      rw [List.drop_eq_getElem_cons hi]
      rw [List.getElem?_eq_getElem hi] at hr
      cases hr
      rfl
    have hnx := head_next (d := ((0, 0), false)) (qs := rows) rfl hi
    have hll := lri_len (f := rows.headD ((0, 0), false)) rows
    rw [hdr] at ha
    have wf := w.mono f
    have hym : ∀ y, rows[(i + 1) % rows.length]? = some y → y ∈ rows := fun y hy => List.mem_of_getElem? hy
    have ha2 : acc ++ (((2 * r.1.1, 2 * r.1.2), r.2) :: ((if r.2 = false ∧ ((rows.drop (i + 1)).headD (rows.headD ((0, 0), false))).2 = false then [((r.1.1 + ((rows.drop (i + 1)).headD (rows.headD ((0, 0), false))).1.1, r.1.2 + ((rows.drop (i + 1)).headD (rows.headD ((0, 0), false))).1.2), true)] else []) ++ lri (rows.headD ((0, 0), false)) (rows.drop (i + 1)))) = lri (rows.headD ((0, 0), false)) rows := ha
    clear ha
    generalize (rows.drop (i + 1)).headD (rows.headD ((0, 0), false)) = y at ha2 hnx
    have hal : acc.length ≤ 24 := by
      have h1 := congrArg List.length ha2
      rw [List.length_append] at h1
      omega
    have hat := map_at (g := ptD) hnx
    have hfm : ((i : Int) + 1).fmod (rows.length : Int) = (((i + 1) % rows.length : Nat) : Int) := by
      rw [show ((i : Int) + 1) = ((i + 1 : Nat) : Int) from rfl, ← Int.ofNat_fmod]
    obtain ⟨⟨rx, ry⟩, rb⟩ := r
    obtain ⟨⟨yx, yy⟩, yb⟩ := y
    obtain ⟨s1, s2⟩ := hs _ (List.mem_of_getElem? hr)
    dsimp only at ha2 s1 s2
    refine ⟨hgd _ f, ?_⟩
    show gTupD 2 _ (.node .tup [.int ((0 + i : Nat) : Int), ptD ((rx, ry), rb)]) _ _ _ _
    rw [Nat.zero_add]
    unfold ptD
    dsimp only
    (repeat walk_at "st")
    refine isq_cell e ?_
    (repeat walk_at "st")
    refine f_app (d := ptD ((2 * rx, 2 * ry), rb)) e (by rw [List.length_map]; omega) ?_
    have e1 : (kset κ' n (.live .lst (acc.map ptD ++ [ptD ((2 * rx, 2 * ry), rb)]))) n = some (.live .lst ((acc ++ [((2 * rx, 2 * ry), rb)]).map ptD)) := by
      rw [kset_same, List.map_append]
      rfl
    have F1 : Fa κ (kset κ' n (.live .lst (acc.map ptD ++ [ptD ((2 * rx, 2 * ry), rb)]))) := f.put hn
    generalize kset κ' n (.live .lst (acc.map ptD ++ [ptD ((2 * rx, 2 * ry), rb)])) = κ1 at e1 F1 ⊢
    have w1 := w.mono F1
    (repeat walk_at "st")
    refine f_lnW w1.wk ?_
    rw [List.length_map]
    refine f_mod (by omega) ?_
    rw [hfm]
    refine ix_wl w1 (at_nat hat) ?_
    unfold ptD
    have one : rb = true ∨ yb = true → L = L ∧ (acc ++ [((2 * rx, 2 * ry), rb)]) ++ lri (rows.headD ((0, 0), false)) (rows.drop (i + 1)) = lri (rows.headD ((0, 0), false)) rows := fun hz => by
      rw [if_neg (fun z => hz.elim (fun q => absurd (z.1.symm.trans q) (by decide)) fun q => absurd (z.2.symm.trans q) (by decide)), List.nil_append] at ha2
      refine ⟨rfl, ?_⟩
      rw [List.append_assoc]
      exact ha2
    cases rb with
    | true =>
      (repeat walk_at "st")
      exact hL _ _ ⟨⟨_, _, _, _, _, rfl⟩, ⟨_, e1, (one (.inl rfl)).2⟩, F1⟩
    | false =>
      cases yb with
      | true =>
        (repeat walk_at "st")
        exact hL _ _ ⟨⟨_, _, _, _, _, rfl⟩, ⟨_, e1, (one (.inr rfl)).2⟩, F1⟩
      | false =>
        rw [if_pos ⟨rfl, rfl⟩] at ha2
        (repeat walk_at "st")
        refine isq_cell e1 ?_
        (repeat walk_at "st")
        refine f_app (d := ptD ((rx + yx, ry + yy), true)) e1 (by rw [List.length_map, List.length_append]; simp only [List.length_cons, List.length_nil]; omega) ?_
        (repeat walk_at "st")
        refine hL _ _ ⟨⟨_, _, _, _, _, rfl⟩, ⟨acc ++ [((2 * rx, 2 * ry), false)] ++ [((rx + yx, ry + yy), true)], ?_, ?_⟩, F1.put hn⟩
        · rw [kset_same, List.map_append (l₂ := [((rx + yx, ry + yy), true)])]
          rfl
        · rw [List.append_assoc, List.append_assoc]
          exact ha2
end



theorem lnum_i {κ : Kap} {X : Str → List D → Kap → Prop} {Q : DQ} {u l : Int} (hl : 0 < l) (hb : l.natAbs < 2 ^ 8000) (h : Q (nq (Rat.divInt u l)) κ) : sp__law_number [.int u, .int l] κ X Q := by
  have hl0 : l ≠ 0 := by omega
  have hg := Int.gcd_pos_of_ne_zero_right u hl0
  have hgl := Int.gcd_le_natAbs_right u hl0
  have hf := rtd_mul u l
  have hr : rtn u l = u.fdiv (Int.gcd u l : Int) ∧ rtd u l = l.fdiv (Int.gcd u l : Int) := by
    unfold rtn rtd cpt
    rw [if_neg (by omega)]
    exact ⟨rfl, rfl⟩
  have hcp : cpt u l = (Int.gcd u l : Int) := by unfold cpt; rw [if_neg (by omega)]
  rw [← nb_rt hl0] at h
  unfold nb at h
  rw [hr.1, hr.2] at h
  rw [hr.2, hcp] at hf
  (unfold sp__law_number; refine s_sp rfl ?_; simp only [startD, List.map_cons, List.map_nil, List.length_cons, List.length_nil, Nat.zero_add, Nat.reduceAdd, Nat.reduceSub, List.replicate, List.cons_append, List.nil_append]; unfold b__law_number)
  (repeat walk_at "st")
  refine s_while (fun m δ κ' => κ' = κ ∧ ∃ x y : Nat, δ = [some (.int u), some (.int l), some (.int x), some (.int y)] ∧ Nat.gcd x y = Int.gcd u l ∧ y = m) ⟨_, rfl, u.natAbs, l.natAbs, by rw [abs_nat, Int.natAbs_of_nonneg (by omega : 0 ≤ l)]; rfl, rfl, rfl⟩ ?_
  rintro m δ κ' L hL ⟨rfl, x, y, rfl, hgg, rfl⟩
  (repeat walk_at "st")
  refine i_d (fun h0 => ?_) fun h0 => ?_
  · (repeat walk_at "st")
    have hy : y ≠ 0 := by omega
    refine hL (x % y) _ _ (Nat.mod_lt _ (by omega)) ⟨rfl, y, x % y, ?_, by rw [gcd_step hy]; exact hgg, rfl⟩
    rw [← Int.ofNat_fmod]
    rfl
  · have hy : y = 0 := by omega
    subst hy
    rw [Nat.gcd_zero_right] at hgg
    subst hgg
    have hd : ∀ i, CDivD i (Int.gcd u l : Int) := fun i => cdiv_of 8000 (by omega) (by omega) (by decide)
    have hiff : l = (Int.gcd u l : Int) ↔ l.fdiv (Int.gcd u l : Int) = 1 := by
      generalize l.fdiv (Int.gcd u l : Int) = z at hf ⊢
      constructor
      · intro e
        have : z * (Int.gcd u l : Int) = 1 * (Int.gcd u l : Int) := by rw [hf, Int.one_mul]; exact e
        exact Int.eq_of_mul_eq_mul_right (by omega) this
      · intro e
        rw [e, Int.one_mul] at hf
        exact hf.symm
    (repeat walk_at "st")
    refine i_d (fun h1 => ?_) fun h1 => ?_
    · rw [if_pos (hiff.mp h1)] at h
      (repeat walk_at "st")
      refine f_div (hd _) ?_
      exact h
    · rw [if_neg (fun z => h1 (hiff.mpr z))] at h
      (repeat walk_at "st")
      refine f_div (hd _) ?_
      (repeat walk_at "st")
      refine f_div (hd _) ?_
      (repeat walk_at "st")
      exact h
theorem ad_wl {κ : Kap} {Q : DQ} {m : Bool} {x y : D} {xs ys : List D} (hx : WL κ x xs) (hy : WL κ y ys) (hl : xs.length + ys.length ≤ sizeLine) (h : fNew m .lst (xs ++ ys) κ Q) : fAdd m x y κ Q := by
  have vx := hx.vw
  have vy := hy.vw
  cases hx with
  | lst =>
    cases hy with
    | lst => exact ⟨hl, h⟩
    | cell e =>
      unfold fAdd
      dsimp only
      rw [vx, vy]
      exact ⟨hl, h⟩
  | cell e' =>
    cases hy with
    | lst =>
      unfold fAdd
      dsimp only
      rw [vx, vy]
      exact ⟨hl, h⟩
    | cell e =>
      unfold fAdd
      dsimp only
      rw [vx, vy]
      exact ⟨hl, h⟩
def lcvL (m : Nat) (b : Int) (f o g : Pt) : List Q2 := (List.range (m - 1)).map (lcv m b f o g)
theorem ltop_bd {m : Nat} {s f o g : Int} (s0 : 0 ≤ s) (s1 : s ≤ m) (h4 : m ≤ 4) (hf : f.natAbs < 2 ^ 18) (ho : o.natAbs < 2 ^ 18) (hg : g.natAbs < 2 ^ 18) :
    ((((m : Int) - s) * ((m : Int) - s)).natAbs < 2 ^ 6 ∧ (2 * s * ((m : Int) - s)).natAbs < 2 ^ 7 ∧ (s * s).natAbs < 2 ^ 6) := by
  have h1 : ((m : Int) - s).natAbs < 2 ^ 3 := by omega
  have h2 : s.natAbs < 2 ^ 3 := by omega
  have h3 : (2 * s).natAbs < 2 ^ 4 := by omega
  exact ⟨mul_bd h1 h1, mul_bd h3 h1, mul_bd h2 h2⟩
section
variable {κ : Kap} {X : Str → List D → Kap → Prop} {Q : DQ}
theorem lcurve_q {m : Nat} {b : Int} {f o g : Pb} (hf : S2 f) (ho : S2 o) (hg : S2 g) (hm : 1 ≤ m) (h4 : m ≤ 4) (hb0 : 0 < b) (hb : b ≤ 64) (h : ∀ n κ', κ n = none → κ' n = some (.live .lst ((lcvL m b f.1 o.1 g.1).map plQ)) → Fa κ κ' → Q (.cell n) κ') : sp__law_curve [ptD f, ptD o, ptD g, .int (m : Nat), .int b] κ X Q := by
  obtain ⟨⟨fx, fy⟩, fb⟩ := f
  obtain ⟨⟨ox, oy⟩, ob⟩ := o
  obtain ⟨⟨gx, gy⟩, gb⟩ := g
  obtain ⟨hf1, hf2⟩ := hf
  obtain ⟨ho1, ho2⟩ := ho
  obtain ⟨hg1, hg2⟩ := hg
  dsimp only at hf1 hf2 ho1 ho2 hg1 hg2 h
  (unfold sp__law_curve; refine s_sp rfl ?_; simp only [startD, List.map_cons, List.map_nil, List.length_cons, List.length_nil, Nat.zero_add, Nat.reduceAdd, Nat.reduceSub, List.replicate, List.cons_append, List.nil_append]; unfold b__law_curve)
  (repeat walk_at "st")
  refine e_nwt fun n hn => ?_
  (repeat walk_at "st")
  refine r_2 ?_
  (repeat walk_at "st")
  refine rq_2 (by omega) (by omega) (by omega) (by omega) ?_
  rw [show ((m : Int) - 1).toNat = m - 1 by omega]
  refine dl_ix (fun i δ κ' => (∃ a6 a7 a8 a9 a10 a11 a12 a13, δ = [some (ptD ((fx, fy), fb)), some (ptD ((ox, oy), ob)), some (ptD ((gx, gy), gb)), some (.int (m : Nat)), some (.int b), some (.cell n), a6, a7, a8, a9, a10, a11, a12, a13]) ∧ κ' n = some (.live .lst (((List.range i).map (lcv m b (fx, fy) (ox, oy) (gx, gy))).map plQ)) ∧ Fa κ κ') ?_ ?_ ⟨⟨_, _, _, _, _, _, _, _, rfl⟩, kset_same, Fa.new hn⟩
  · rintro δ κ' ⟨⟨a6, a7, a8, a9, a10, a11, a12, a13, rfl⟩, e, f⟩
    rw [rangeD_len] at e
    refine ⟨trivial, ?_⟩
    (repeat walk_at "st")
    exact h n κ' hn e f
  · rintro i d δ κ' L hd hL ⟨⟨a6, a7, a8, a9, a10, a11, a12, a13, rfl⟩, e, f⟩
    obtain ⟨hi, rfl⟩ := rangeD_get hd
    rw [show (1 : Int) + (i : Nat) = (i : Int) + 1 by omega]
    obtain ⟨bA, bB, bC⟩ := ltop_bd (m := m) (s := (i : Int) + 1) (by omega) (by omega) h4 hf1 ho1 hg1
    have hM1 : (2 * (m : Int) * m).natAbs < 2 ^ 7 := mul_bd (a := 4) (b := 3) (by omega) (by omega)
    have hM2 : (2 * (m : Int) * m * b).natAbs < 2 ^ 14 := mul_bd (b := 7) hM1 (by omega)
    have hM0 : 0 < 2 * (m : Int) * m * b := Int.mul_pos (Int.mul_pos (by omega) (by omega)) hb0
    have hM3 := Nat.lt_of_lt_of_le hM2 (Nat.pow_le_pow_right (show 0 < 2 by decide) (show 14 ≤ 8000 by decide))
    refine ⟨trivial, ?_⟩
    (repeat walk_at "st")
    rw [range_2]
    intro n1 hn1
    refine ⟨trivial, ?_⟩
    rw [bi_inl]
    simp only [dwipe, List.set_cons_zero, List.set_cons_succ]
    unfold ptD
    dsimp only
    (repeat walk_at "st")
    refine ⟨kset_same, by decide, ?_⟩
    refine ⟨trivial, ?_⟩
    rw [bi_inl]
    simp only [dwipe, List.set_cons_zero, List.set_cons_succ]
    (repeat walk_at "st")
    refine ⟨kset_same, by unfold sizeLine; simp, trivial, kset_same, ?_⟩
    have f1 : Fa κ' (kset (kset (kset (kset κ' n1 (.live .lst [])) n1 (.live .lst ([] ++ [.int (((m : Int) - ((i : Int) + 1)) * ((m : Int) - ((i : Int) + 1)) * fx + 2 * ((i : Int) + 1) * ((m : Int) - ((i : Int) + 1)) * ox + ((i : Int) + 1) * ((i : Int) + 1) * gx)]))) n1 (.live .lst ([] ++ [.int (((m : Int) - ((i : Int) + 1)) * ((m : Int) - ((i : Int) + 1)) * fx + 2 * ((i : Int) + 1) * ((m : Int) - ((i : Int) + 1)) * ox + ((i : Int) + 1) * ((i : Int) + 1) * gx)] ++ [.int (((m : Int) - ((i : Int) + 1)) * ((m : Int) - ((i : Int) + 1)) * fy + 2 * ((i : Int) + 1) * ((m : Int) - ((i : Int) + 1)) * oy + ((i : Int) + 1) * ((i : Int) + 1) * gy)]))) n1 .dead) := (((Fa.new hn1).put hn1).put hn1).put hn1
    generalize kset (kset (kset (kset κ' n1 _) n1 _) n1 _) n1 .dead = κ1 at f1 ⊢
    have e1 := f1 _ _ e
    (repeat walk_at "st")
    refine isq_cell e1 ?_
    (repeat walk_at "st")
    simp only [List.nil_append, List.cons_append]
    intro n2 hn2
    refine ⟨trivial, ?_⟩
    rw [bi_inl]
    simp only [dwipe, List.set_cons_zero, List.set_cons_succ]
    (repeat walk_at "st")
    refine lnum_i hM0 hM3 ?_
    refine ⟨kset_same, by decide, trivial, ?_⟩
    rw [bi_inl]
    simp only [dwipe, List.set_cons_zero, List.set_cons_succ]
    (repeat walk_at "st")
    refine lnum_i hM0 hM3 ?_
    refine ⟨kset_same, by unfold sizeLine; simp, trivial, kset_same, ?_⟩
    refine tp_L ?_
    (repeat walk_at "st")
    simp only [List.nil_append, List.cons_append]
    have f2 : ∀ l1 l2 l3 c, Fa κ1 (kset (kset (kset (kset κ1 n2 (.live .lst l1)) n2 (.live .lst l2)) n2 (.live .lst l3)) n2 c) := fun l1 l2 l3 c => (((Fa.new hn2).put hn2).put hn2).put hn2
    refine f_app (d := plQ (lcv m b (fx, fy) (ox, oy) (gx, gy) i)) (f2 _ _ _ _ _ _ e1) (by rw [List.length_map, List.length_map, List.length_range]; omega) ?_
    (repeat walk_at "st")
    refine hL _ _ ⟨⟨_, _, _, _, _, _, _, _, rfl⟩, ?_, ((f.trans f1).trans (f2 _ _ _ _)).put hn⟩
    rw [kset_same, List.range_succ, List.map_append, List.map_append]
    rfl
end



def e0 : Pb := ((0, 0), false)
theorem lpolG_len {m : Nat} {b : Int} {ring : List Pb} {k : Nat} : (polG e0 (vI b) (lcvL m b) ring k).length ≤ m + 1 := by
  unfold polG
  split
  · simp
  · unfold lcvL
    rw [List.length_map, List.length_range]
    omega
theorem lpol_part {m : Nat} {b : Int} {ring : List Pb} : ∀ i, ((List.range i).flatMap (polG e0 (vI b) (lcvL m b) ring)).length ≤ i * (m + 1)
  | 0 => by simp
  | i + 1 => by
    rw [List.range_succ, List.flatMap_append, List.length_append]
    have := lpol_part (m := m) (b := b) (ring := ring) i
    have h2 := lpolG_len (m := m) (b := b) (ring := ring) (k := i)
    simp only [List.flatMap_cons, List.flatMap_nil, List.append_nil]
    rw [Nat.add_mul]
    omega
section
variable {κ : Kap} {X : Str → List D → Kap → Prop} {Q : DQ}
theorem lpolygon_q {m : Nat} {b : Int} {d : D} {rows : List Pb} (w : WL κ d (rows.map ptD)) (h0 : rows ≠ []) (hl : rows.length ≤ 12) (hs : ∀ r ∈ rows, Sf r) (hm : 1 ≤ m) (h4 : m ≤ 4) (hb0 : 0 < b) (hb : b ≤ 64) (h : ∀ n κ', κ n = none → κ' n = some (.live .lst ((lpolI m b (lringI rows)).map plQ)) → Fa κ κ' → Q (.cell n) κ') : sp__law_polygon [d, .int (m : Nat), .int b] κ X Q := by
  (unfold sp__law_polygon; refine s_sp rfl ?_; simp only [startD, List.map_cons, List.map_nil, List.length_cons, List.length_nil, Nat.zero_add, Nat.reduceAdd, Nat.reduceSub, List.replicate, List.cons_append, List.nil_append]; unfold b__law_polygon)
  (repeat walk_at "st")
  refine lring_q w h0 hl hs fun d2 κ1 w2 f1 => ?_
  have hrl := lring_len rows
  have hrs := lring_sz hs
  have hpos := List.length_pos_iff.mpr h0
  generalize lringI rows = ring at w2 hrl hrs h
  have hlp : lpolI m b ring = (List.range ring.length).flatMap (polG e0 (vI b) (lcvL m b) ring) := rfl
  rw [hlp] at h
  (repeat walk_at "st")
  refine e_nwt fun n hn => ?_
  (repeat walk_at "st")
  refine en_wl2 w2 (Fa.new hn) fun gd hgd => ?_
  refine dl_ix (fun i δ κ' => ∃ nn, (∃ a5 a6, δ = [some d, some (.int (m : Nat)), some (.int b), some d2, some (.cell nn), a5, a6]) ∧ κ1 nn = none ∧ κ' nn = some (.live .lst (((List.range i).flatMap (polG e0 (vI b) (lcvL m b) ring)).map plQ)) ∧ Fa κ1 κ') ?_ ?_ ⟨n, ⟨_, _, rfl⟩, hn, kset_same, Fa.new hn⟩
  · rintro δ κ' ⟨nn, ⟨a5, a6, rfl⟩, hnn, e, f⟩
    rw [enumD_len, List.length_map] at e
    refine ⟨hgd _ f, ?_⟩
    (repeat walk_at "st")
    exact h nn κ' (hn_of f1 hnn) e (f1.trans f)
  · rintro i x δ κ' L hd hL ⟨nn, ⟨a5, a6, rfl⟩, hnn, e, f⟩
    rw [enumD_get, List.getElem?_map, Option.map_map, Option.map_eq_some_iff] at hd
    obtain ⟨r, hr, rfl⟩ := hd
    have hi := (List.getElem?_eq_some_iff.mp hr).1
    have hpl := lpol_part (m := m) (b := b) (ring := ring) i
    have hpb : i * (m + 1) ≤ 24 * 5 := Nat.mul_le_mul (by omega) (by omega)
    have hg : ring.getD i e0 = r := by
      rw [List.getD_eq_getElem?_getD, hr]
      rfl
    have hrm : r ∈ ring := List.mem_of_getElem? hr
    refine ⟨hgd _ f, ?_⟩
    show gTupD 2 _ (.node .tup [.int ((0 + i : Nat) : Int), ptD r]) _ _ _ _
    rw [Nat.zero_add]
    obtain ⟨⟨rx, ry⟩, rb⟩ := r
    have hb2 : (2 * b).natAbs < 2 ^ 8000 := Nat.lt_of_lt_of_le (show (2 * b).natAbs < 2 ^ 8 by omega) (Nat.pow_le_pow_right (by decide) (by decide))
    have hsn : (List.range (i + 1)).flatMap (polG e0 (vI b) (lcvL m b) ring) = (List.range i).flatMap (polG e0 (vI b) (lcvL m b) ring) ++ polG e0 (vI b) (lcvL m b) ring i := by
      rw [List.range_succ, List.flatMap_append]
      simp only [List.flatMap_cons, List.flatMap_nil, List.append_nil]
    rw [hsn] at hL
    cases rb with
    | true =>
      have hp : polG e0 (vI b) (lcvL m b) ring i = [vI b (rx, ry)] := by
        unfold polG
        rw [hg, if_pos rfl]
      rw [hp] at hL
      unfold ptD
      dsimp only
      (repeat walk_at "st")
      refine isq_cell e ?_
      (repeat walk_at "st")
      refine lnum_i (by omega) hb2 ?_
      (repeat walk_at "st")
      refine lnum_i (by omega) hb2 ?_
      (repeat walk_at "st")
      refine f_app (d := plQ (vI b (rx, ry))) e (by rw [List.length_map]; omega) ?_
      (repeat walk_at "st")
      refine hL _ _ ⟨nn, ⟨_, _, rfl⟩, hnn, ?_, f.put hnn⟩
      rw [kset_same, List.map_append]
      rfl
    | false =>
      have hm1 : (i + 1) % ring.length < ring.length := Nat.mod_lt _ (by omega)
      have hp : polG e0 (vI b) (lcvL m b) ring i = lcvL m b (ring.getD (prevI ring.length i) e0).1 (rx, ry) (ring.getD ((i + 1) % ring.length) e0).1 := by
        unfold polG
        rw [hg, if_neg (fun z => by cases z)]
      rw [hp] at hL
      have wf := w2.mono f
      have hfm : ((i : Int) + 1).fmod (ring.length : Int) = (((i + 1) % ring.length : Nat) : Int) := by
        rw [show ((i : Int) + 1) = ((i + 1 : Nat) : Int) from rfl, ← Int.ofNat_fmod]
      have hat := map_at (g := ptD) (at_d (d := e0) hm1)
      have hpv := atI_prev (g := ptD) (d := e0) hi
      have sp := hrs _ (List.mem_of_getElem? (at_d (d := e0) (prev_lt hi)))
      have sa := hrs _ (List.mem_of_getElem? (at_d (d := e0) hm1))
      have so := hrs _ hrm
      generalize ring.getD (prevI ring.length i) e0 = p at hL hpv sp
      generalize ring.getD ((i + 1) % ring.length) e0 = y at hL hat sa
      (repeat walk_at "st")
      refine f_it2 ?_
      (repeat walk_at "st")
      refine ix_wl wf (by exact hpv) ?_
      (repeat walk_at "st")
      refine f_lnW wf.wk ?_
      rw [List.length_map]
      refine f_mod (by omega) ?_
      rw [hfm]
      refine ix_wl wf (at_nat hat) ?_
      (repeat walk_at "st")
      refine lcurve_q sp so sa hm h4 hb0 hb fun n2 κ2 hn2 e2 f2 => ?_
      have e3 := f2 _ _ e
      have hcl : (lcvL m b p.1 (rx, ry) y.1).length ≤ 4 := by
        unfold lcvL
        rw [List.length_map, List.length_range]
        omega
      (repeat walk_at "st")
      dsimp only at e2 ⊢
      refine ad_wl (.cell e3) (.cell e2) (by rw [List.length_map, List.length_map]; unfold sizeLine; omega) ?_
      refine e_nwt fun n3 hn3 => ?_
      (repeat walk_at "st")
      refine hL _ _ ⟨n3, ⟨_, _, rfl⟩, hn_of (f.trans f2) hn3, ?_, (f.trans f2).put (hn_of (f.trans f2) hn3)⟩
      rw [kset_same, List.map_append]
end



def mkR (b : Int) (r : List Pb) : List Rw := r.map fun p => (v1 b p.1, p.2)
theorem pol_same {m : Nat} {b : Int} (hm : 0 < m) (hb : 0 < b) (r : List Pb) : polR m (ringR (mkR b r)) = lpolI m b (lringI r) := by
  rw [pol_eq hm hb, ring_eq hb]
  rfl
theorem lt_log {i : Int} (h : i.natAbs < 2 ^ 1900) : i.natAbs.log2 < 1920 := by
  by_cases h0 : i.natAbs = 0
  · rw [h0]
    decide
  · exact (Nat.log2_lt h0).mpr (Nat.lt_of_lt_of_le h (Nat.pow_le_pow_right (by decide) (by decide)))
theorem plP_sh {k : Nat} {x y : Rat} (h : Sz k x) (h' : Sz k y) (hk : k ≤ 1900) : Sh 7707 (plP x y) := Sh.tuple (n := 3850) (ps := [nqP x, nqP y]) fun p hp => by
  have one : ∀ q : Rat, Sz k q → Sh 3850 (nqP q) := fun q z => nbP_sh (lt_log (Nat.lt_of_lt_of_le z.1 (Nat.pow_le_pow_right (by decide) hk))) (lt_log (Nat.lt_of_lt_of_le z.db (Nat.pow_le_pow_right (by decide) hk)))
  simp only [List.mem_cons, List.not_mem_nil, or_false] at hp
  rcases hp with rfl | rfl
  · exact one x h
  · exact one y h'
theorem Sh.bool' {b : Bool} : Sh 5 (.bool b) := by
  cases b
  · exact ⟨rfl, Tx.of "False" (by decide +kernel)⟩
  · exact ⟨rfl, Tx.of "True" (by decide +kernel)⟩
def plPq (p : Q2) : PyData := plP p.1 p.2
def polP (ps : List Q2) : PyData := .list (ps.map plPq)
def resP (pss : List (List Q2)) : PyData := .list (pss.map polP)
def Bp (pss : List (List Q2)) : Prop := pss.length ≤ 4 ∧ ∀ ps ∈ pss, ps.length ≤ 120 ∧ ∀ p ∈ ps, SzP 40 p
theorem Bp.drop {pss : List (List Q2)} (h : Bp pss) (k : Nat) : Bp (pss.drop k) := ⟨by rw [List.length_drop]; have := h.1; omega, fun ps hp => h.2 ps (List.mem_of_mem_drop hp)⟩
theorem pol_sh {ps : List Q2} (hl : ps.length ≤ 120) (hs : ∀ p ∈ ps, SzP 40 p) : Sh 925082 (polP ps) := by
  have := Sh.list (n := 7707) (ps := ps.map plPq) fun q hq => by
    obtain ⟨p, hp, rfl⟩ := List.mem_map.mp hq
    exact plP_sh (hs p hp).1 (hs p hp).2 (by decide)
  rw [List.length_map] at this
  exact this.mono (by omega)
theorem res_sh {pss : List (List Q2)} (h : Bp pss) : Sh 3700338 (resP pss) := by
  have := Sh.list (n := 925082) (ps := pss.map polP) fun q hq => by
    obtain ⟨p, hp, rfl⟩ := List.mem_map.mp hq
    exact pol_sh (h.2 p hp).1 (h.2 p hp).2
  rw [List.length_map] at this
  exact this.mono (by have := h.1; omega)
theorem res_dp (pss : List (List Q2)) : (resP pss).depth ≤ 60 := by
  have : Sp 4 (resP pss) := Sp.list (k := 3) fun q hq => by
    obtain ⟨ps, _, rfl⟩ := List.mem_map.mp hq
    exact Sp.list (k := 2) fun r hr => by
      obtain ⟨p, _, rfl⟩ := List.mem_map.mp hr
      exact plP_sp _ _
  exact Nat.le_trans this.2 (by decide)
theorem repr_Sh {n : Nat} {x : D} {p : PyData} {κ : Kap} {Q : DQ} (hp : Pd κ x p) (h : Sh n p) (hn : n ≤ 16777216) (hd : p.depth ≤ 60) (q : SeqAt.shaped (.str p.shown) = true → Q (.str p.shown) κ) : fRepr [x] κ Q :=
  repr_pd hp h.1 hd (Nat.le_trans h.2.1 hn) (q h.2.shaped)
theorem Cs.tail {κ : Kap} {m : Nat} {ms : List Nat} {ys : List D} {yss : List (List D)} (h : Cs κ (m :: ms) (ys :: yss)) : κ m = some (.live .lst ys) ∧ m ∉ ms ∧ Cs κ ms yss :=
  ⟨h.2.2 0 m ys rfl rfl, (List.nodup_cons.mp h.2.1).1, Nat.succ.inj h.1, (List.nodup_cons.mp h.2.1).2, fun j k zs h1 h2 => h.2.2 (j + 1) k zs h1 h2⟩
theorem cs_pd {κ : Kap} : ∀ {ms : List Nat} {pss : List (List Q2)}, Cs κ ms (pss.map fun ps => ps.map plQ) → PdL κ (ms.map D.cell) (pss.map polP)
  | [], [], _ => .nil
  | [], _ :: _, h => by cases h.1
  | _ :: _, [], h => by cases h.1
  | m :: ms, ps :: pss, h => by
    obtain ⟨h1, _, h2⟩ := Cs.tail (yss := pss.map fun ps => ps.map plQ) h
    exact .cons (pd_cl h1 (pdataL_map (f := plQ) (g := plPq) (fun p => plD_pdata p.1 p.2) ps)) (cs_pd h2)
theorem repr_cs {κ : Kap} {Q : DQ} {d : D} {ms : List Nat} {pss : List (List Q2)} (w : WL κ d (ms.map D.cell)) (C : Cs κ ms (pss.map fun ps => ps.map plQ)) (B : Bp pss) (q : SeqAt.shaped (.str (resP pss).shown) = true → Q (.str (resP pss).shown) κ) : fRepr [d] κ Q :=
  repr_Sh (.lst w.vw (cs_pd C)) (res_sh B) (by decide) (res_dp pss) q
/-! ### what is handed in -/
def hP (t : Bool) (ps : List PyData) : PyData := if t = true then .tuple ps else .list ps
def Wt (κ : Kap) (t : Bool) (d : D) (xs : List D) : Prop := if t = true then d = .node .tup xs else WL κ d xs
theorem Wt.wk {κ : Kap} {t : Bool} {d : D} {xs : List D} (h : Wt κ t d xs) : Wk κ d xs := by
  cases t with
  | true =>
    have e : d = .node .tup xs := h
    rw [e]
    exact .tup
  | false =>
    have w : WL κ d xs := h
    exact w.wk
theorem Wt.mono {κ κ' : Kap} {t : Bool} {d : D} {xs : List D} (h : Wt κ t d xs) (f : Fa κ κ') : Wt κ' t d xs := by
  cases t with
  | true => exact h
  | false =>
    have w : WL κ d xs := h
    exact w.mono f
theorem Wt.pd {κ : Kap} {t : Bool} {d : D} {xs : List D} {ps : List PyData} (h : Wt κ t d xs) (hp : pdataL xs = some ps) : Pd κ d (hP t ps) := by
  cases t with
  | true =>
    have e : d = .node .tup xs := h
    rw [e]
    exact .tup rfl (pdL_of hp)
  | false =>
    have w : WL κ d xs := h
    exact .lst w.vw (pdL_of hp)
theorem hP_sh {t : Bool} {n k : Nat} {ps : List PyData} (h : ∀ p ∈ ps, Sh n p) (hk : ps.length * (n + 2) + 3 ≤ k) : Sh k (hP t ps) := by
  cases t with
  | true => exact (Sh.tuple h).mono hk
  | false => exact (Sh.list h).mono (by omega)
theorem hP_sp {t : Bool} {k : Nat} {ps : List PyData} (h : ∀ p ∈ ps, Sp k p) : Sp (k + 1) (hP t ps) := by
  cases t with
  | true => exact Sp.tuple h
  | false => exact Sp.list h
def hdP (t u v : Bool) (rs : List Rw) (es : List Int) : PyData := .list [hP t (rs.map fun r => plPq r.1), hP u (es.map PyData.int), hP v (rs.map fun r => PyData.bool r.2)]
theorem hd_repr {κ : Kap} {Q : DQ} {t u v : Bool} {rs : List Rw} {es : List Int} {d1 d2 d3 : D} (h1 : Wt κ t d1 (rs.map fun r => plQ r.1)) (h2 : Wt κ u d2 (es.map D.int)) (h3 : Wt κ v d3 (rs.map fun r => D.bl r.2)) (hl : rs.length ≤ 48) (hs : ∀ r ∈ rs, SzP 40 r.1) (he : es.length ≤ 4) (hes : ∀ e ∈ es, e.natAbs < 2 ^ 60)
    (q : SeqAt.shaped (.str (hdP t u v rs es).shown) = true → Q (.str (hdP t u v rs es).shown) κ) : fRepr [.node .lst [d1, d2, d3]] κ Q := by
  have p1 : Pd κ d1 (hP t (rs.map fun r => plPq r.1)) := h1.pd (pdataL_map (f := fun r : Rw => plQ r.1) (g := fun r : Rw => plPq r.1) (fun r => plD_pdata r.1.1 r.1.2) rs)
  have p2 : Pd κ d2 (hP u (es.map PyData.int)) := h2.pd (pdataL_map (fun _ => rfl) es)
  have p3 : Pd κ d3 (hP v (rs.map fun r => PyData.bool r.2)) := h3.pd (pdataL_map (fun _ => rfl) rs)
  have sh : Sh 1110113 (hdP t u v rs es) := (Sh.list (n := 370035) fun p hp => by
    simp only [List.mem_cons, List.not_mem_nil, or_false] at hp
    rcases hp with rfl | rfl | rfl
    · refine hP_sh (n := 7707) (fun p hp => ?_) (by rw [List.length_map]; omega)
      obtain ⟨r, hr, rfl⟩ := List.mem_map.mp hp
      exact plP_sh (hs r hr).1 (hs r hr).2 (by decide)
    · refine hP_sh (n := 1921) (fun p hp => ?_) (by rw [List.length_map]; omega)
      obtain ⟨e, he, rfl⟩ := List.mem_map.mp hp
      exact Sh.int (lt_log (Nat.lt_of_lt_of_le (hes e he) (Nat.pow_le_pow_right (by decide) (by decide))))
    · refine hP_sh (n := 5) (fun p hp => ?_) (by rw [List.length_map]; omega)
      obtain ⟨r, hr, rfl⟩ := List.mem_map.mp hp
      exact Sh.bool').mono (by simp only [List.length_cons, List.length_nil]; omega)
  refine repr_Sh (.lst rfl (.cons p1 (.cons p2 (.cons p3 .nil)))) sh (by decide) ?_ q
  have : Sp 4 (hdP t u v rs es) := Sp.list (k := 3) fun p hp => by
    simp only [List.mem_cons, List.not_mem_nil, or_false] at hp
    rcases hp with rfl | rfl | rfl
    · refine hP_sp (k := 2) fun p hp => ?_
      obtain ⟨r, hr, rfl⟩ := List.mem_map.mp hp
      exact plP_sp _ _
    · refine (hP_sp (k := 0) fun p hp => ?_).mono (by decide)
      obtain ⟨e, he, rfl⟩ := List.mem_map.mp hp
      exact Sp.int
    · refine (hP_sp (k := 0) fun p hp => ?_).mono (by decide)
      obtain ⟨r, hr, rfl⟩ := List.mem_map.mp hp
      exact Sp.bool
  exact Nat.le_trans this.2 (by decide)
theorem lcv_sz {m : Nat} {b : Int} {f o g : Pb} {j : Nat} (hf : S2 f) (ho : S2 o) (hg : S2 g) (hj : j + 1 ≤ m) (h4 : m ≤ 4) (hb0 : 0 < b) (hb : b ≤ 64) : SzP 40 (lcv m b f.1 o.1 g.1 j) := by
  have key : ∀ x y z : Int, x.natAbs < 2 ^ 18 → y.natAbs < 2 ^ 18 → z.natAbs < 2 ^ 18 → Sz 40 (Rat.divInt (ltop m ((j : Int) + 1) x y z) (2 * m * m * b)) := fun x y z hx hy hz => by
    obtain ⟨bA, bB, bC⟩ := ltop_bd (m := m) (s := (j : Int) + 1) (by omega) (by omega) h4 hx hy hz
    have hM1 : (2 * (m : Int) * m).natAbs < 2 ^ 7 := mul_bd (a := 4) (b := 3) (by omega) (by omega)
    have hM2 : (2 * (m : Int) * m * b).natAbs < 2 ^ 14 := mul_bd (b := 7) hM1 (by omega)
    have hM0 : 0 < 2 * (m : Int) * m * b := Int.mul_pos (Int.mul_pos (by omega) (by omega)) hb0
    have t1 := mul_bd bA hx
    have t2 := mul_bd bB hy
    have t3 := mul_bd bC hz
    refine Sz.divInt (by omega) ?_ (Nat.lt_of_lt_of_le hM2 (by decide))
    unfold ltop
    omega
  exact ⟨key _ _ _ hf.1 ho.1 hg.1, key _ _ _ hf.2 ho.2 hg.2⟩
theorem lpol_sz {m : Nat} {b : Int} {r : List Pb} (hs : ∀ p ∈ r, Sf p) (hm : 1 ≤ m) (h4 : m ≤ 4) (hb0 : 0 < b) (hb : b ≤ 64) : ∀ p ∈ lpolI m b (lringI r), SzP 40 p := fun p hp => by
  have hrs := lring_sz hs
  generalize lringI r = ring at hp hrs
  obtain ⟨k, hk, hp⟩ := List.mem_flatMap.mp hp
  have hk := List.mem_range.mp hk
  have hm1 : (k + 1) % ring.length < ring.length := Nat.mod_lt _ (by omega)
  have sp := hrs _ (List.mem_of_getElem? (at_d (d := e0) (prev_lt hk)))
  have sa := hrs _ (List.mem_of_getElem? (at_d (d := e0) hm1))
  have so := hrs _ (List.mem_of_getElem? (at_d (d := e0) hk))
  change p ∈ (if (ring.getD k e0).2 = true then [vI b (ring.getD k e0).1] else (List.range (m - 1)).map (lcv m b (ring.getD (prevI ring.length k) e0).1 (ring.getD k e0).1 (ring.getD ((k + 1) % ring.length) e0).1)) at hp
  split at hp
  · rw [List.mem_singleton.mp hp]
    exact ⟨Sz.divInt (by omega) (Nat.lt_of_lt_of_le so.1 (by decide)) (Nat.lt_of_lt_of_le (show (2 * b).natAbs < 2 ^ 8 by omega) (by decide)), Sz.divInt (by omega) (Nat.lt_of_lt_of_le so.2 (by decide)) (Nat.lt_of_lt_of_le (show (2 * b).natAbs < 2 ^ 8 by omega) (by decide))⟩
  · obtain ⟨j, hj, rfl⟩ := List.mem_map.mp hp
    exact lcv_sz sp so sa (by have := List.mem_range.mp hj; omega) h4 hb0 hb
theorem lpol_bp {m : Nat} {b : Int} {rows : List (List Pb)} (O : Ow rows) (hm : 1 ≤ m) (h4 : m ≤ 4) (hb0 : 0 < b) (hb : b ≤ 64) : Bp (rows.map fun r => lpolI m b (lringI r)) := by
  refine ⟨by rw [List.length_map]; exact O.l4, fun ps hp => ?_⟩
  obtain ⟨r, hr, rfl⟩ := List.mem_map.mp hp
  refine ⟨?_, lpol_sz (O.pt r hr) hm h4 hb0 hb⟩
  have h1 := lpol_part (m := m) (b := b) (ring := lringI r) (lringI r).length
  have h2 := (lring_len r).1
  have h3 := (O.rl r hr).2
  have h5 : (lringI r).length * (m + 1) ≤ 24 * 5 := Nat.mul_le_mul (by omega) (by omega)
  exact Nat.le_trans h1 (by omega)



theorem s_thr {s : DS} {δ : DEnv} {κ : Kap} {X : DX} {n : DEnv → Kap → Prop} {rt : DQ} {bk ct : DEnv → Kap → Prop} (R : DEnv → Kap → Prop) (h1 : ∀ n' : DEnv → Kap → Prop, (∀ δ κ, R δ κ → n' δ κ) → s δ κ X ⟨n', rt, bk, ct⟩) (h2 : ∀ δ κ, R δ κ → n δ κ) : s δ κ X ⟨n, rt, bk, ct⟩ := h1 n h2
theorem e_bm0 {T : String} {f : D1} {a : DE} {δ : DEnv} {κ : Kap} {X : DX} {Q : DQ} (h : a δ κ X fun x κ1 => isSeq T x κ1 ∧ f x κ1 Q) : dBM0 T f a δ κ X Q := h
theorem cut_lo {xs : List D} {k : Nat} (h : k ≤ xs.length) : cutD xs (some (k : Int)) none = xs.drop k := by
  unfold cutD
  rw [HT.sIx_nat, HT.sIx_none, Nat.min_eq_left h]
  exact List.take_of_length_le (by rw [List.length_drop]; exact Nat.le_refl _)
theorem Cs.drop {κ : Kap} {ms : List Nat} {yss : List (List D)} (h : Cs κ ms yss) (k : Nat) : Cs κ (ms.drop k) (yss.drop k) := by
  refine ⟨by rw [List.length_drop, List.length_drop, h.1], h.2.1.sublist (List.drop_sublist _ _), fun j m ys h1 h2 => ?_⟩
  rw [List.getElem?_drop] at h1 h2
  exact h.2.2 _ _ _ h1 h2
theorem Cs.set {κ : Kap} {n : Nat} {c : Cell} {ms : List Nat} {yss : List (List D)} (C : Cs κ ms yss) (hni : n ∉ ms) : Cs (kset κ n c) ms yss := C.mono fun x hx d hd => by
  rw [kset_ne fun z => hni (by rw [← z]; exact hx)]
  exact hd
def polsR (mm : Nat) (b : Int) (rows : List (List Pb)) : List (List Q2) := rows.map fun r => lpolI mm b (lringI r)
theorem pols_same {mm : Nat} {b : Int} (hm : 1 ≤ mm) (hb : 0 < b) (rows : List (List Pb)) : (rows.map (mkR b)).map (polI mm) = (polsR mm b rows).map fun ps => ps.map plQ := by
  unfold polsR
  rw [List.map_map, List.map_map]
  refine List.map_congr_left fun r _ => ?_
  show (polR mm (ringR (mkR b r))).map plQ = _
  rw [pol_same hm hb]
  rfl
theorem ends_same (b : Int) (rows : List (List Pb)) : endsL (rows.map (mkR b)) = endsL rows := by
  unfold endsL
  rw [List.length_map]
  refine List.map_congr_left fun i _ => ?_
  rw [← List.map_take, List.length_flatten, List.length_flatten, List.map_map]
  congr 3
  refine List.map_congr_left fun r _ => ?_
  show (mkR b r).length = r.length
  unfold mkR
  rw [List.length_map]
theorem flat_mk (b : Int) (rows : List (List Pb)) : (rows.map (mkR b)).flatten = rows.flatten.map fun p => (v1 b p.1, p.2) := by
  rw [List.map_flatten]
  rfl
theorem Ow.flat {rows : List (List Pb)} (O : Ow rows) : rows.flatten.length ≤ 48 := by
  have key : ∀ l : List (List Pb), (∀ r ∈ l, r.length ≤ 12) → l.flatten.length ≤ 12 * l.length := fun l => by
    induction l with
    | nil => intro _; exact Nat.le_refl _
    | cons r l ih =>
      intro hr
      have h1 := ih fun x hx => hr x (List.mem_cons_of_mem _ hx)
      have h2 := hr r List.mem_cons_self
      rw [List.flatten_cons, List.length_append, List.length_cons]
      omega
  have := key rows fun r hr => (O.rl r hr).2
  have := O.l4
  omega
theorem endsL_bd {rows : List (List Pb)} (O : Ow rows) : (endsL rows).length ≤ 4 ∧ ∀ e ∈ endsL rows, e.natAbs < 2 ^ 60 := by
  have h4 := O.l4
  have hf := O.flat
  constructor
  · unfold endsL
    rw [List.length_map, List.length_range]
    exact h4
  · intro e he
    obtain ⟨i, _, rfl⟩ := List.mem_map.mp he
    have := flat_le rows (i + 1)
    omega
theorem v1_sz {b : Int} {p : Pb} (h : Sf p) (hb0 : 0 < b) (hb : b ≤ 64) : SzP 40 (v1 b p.1) := by
  obtain ⟨h1, h2⟩ := h
  exact ⟨Sz.divInt (by omega) (by omega) (by omega), Sz.divInt (by omega) (by omega) (by omega)⟩
section
variable {κ : Kap} {X : Str → List D → Kap → Prop} {Q : DQ}
theorem hand_q {κ0 : Kap} {δ : DEnv} {b m : Nat} {x : D} {xs : List D} (h0 : δ[0]? = some (some (.cell b))) (h12 : δ[12]? = some (some x)) (w : ∀ κ', Fr b κ0 κ' → WL κ' x xs) (f0 : Fr b κ0 κ) (hB : By b m κ) (hm : m ≤ 2 ^ 20) (h : ∀ t y κ', (∀ κ'', Fr b κ0 κ'' → Wt κ'' t y xs) → By b (m + 1) κ' → Fr b κ κ' → Q y κ') : (dIf (tBl (dOp fEq (dCall sp__law_take [] (dCons (dVar 0) (dCons (dC (.int 2)) dNil))) (dC (.int 0)))) (dTupOf (dVar 12)) (dVar 12)) δ κ XF Q := by
  refine e_if (t_bl (e_op (e_call (e_cons (e_var h0 (e_cons (e_c (e_nil ?_))))))))
  refine take_spec hB hm (by decide) (by decide) fun t κ1 t0 t1 B1 f1 => ?_
  refine e_c (f_eqI ⟨_, rfl, ?_⟩)
  refine i_d (fun e => ?_) fun e => ?_
  · refine e_tupOf (e_var h12 (tp_wl (w _ (f0.trans f1)) ?_))
    exact h true _ _ (fun _ _ => rfl) B1 f1
  · refine e_var h12 ?_
    exact h false _ _ w B1 f1
theorem right_q {b m : Nat} {d : D} {rows : List (List Pb)} {base : Int} (hB : By b m κ) (hm : m + 100 ≤ 2 ^ 20) (R : RwP κ d rows) (hdb : ∀ κ', Fr b κ κ' → RwP κ' d rows) (O : Ow rows) (hb0 : 0 < base) (hb : base ≤ 64) (h : ∀ κ', Q (.bl true) κ') : sp__law_right [.cell b, d, obD rows, .int base] κ X Q := by
  have hfl := O.flat
  have hends := endsL_bd O
  have hbb : base.natAbs < 2 ^ 8000 := Nat.lt_of_lt_of_le (show base.natAbs < 2 ^ 7 by omega) (Nat.pow_le_pow_right (by decide) (by decide))
  (unfold sp__law_right; refine s_sp rfl ?_; simp only [startD, List.map_cons, List.map_nil, List.length_cons, List.length_nil, Nat.zero_add, Nat.reduceAdd, Nat.reduceSub, List.replicate, List.cons_append, List.nil_append]; unfold b__law_right)
  (repeat walk_at "st")
  refine e_met ?_
  (repeat walk_at "st")
  refine o_met "Outline" ["kept_rounds"] [.node .tup (rows.map rdD)] rfl rfl ?_
  (repeat walk_at "st")
  refine places_q O fun κ1 f1 => ?_
  (repeat walk_at "st")
  intro n1 hn1
  refine lcLoop_ix (fun j acc κ2 => acc = (rows.flatten.take j).map (fun p => plQ (v1 base p.1)) ∧ κ2 n1 = some (.live .lst acc) ∧ Fa κ1 κ2) ?_ ?_ ⟨rfl, kset_same, Fa.new hn1⟩
  · rintro acc κ2 ⟨rfl, e2, f2⟩
    rw [List.length_map, List.take_length] at e2 ⊢
    refine ⟨trivial, e2, ?_⟩
    have F3 := f1.trans (f2.put (c := .dead) hn1)
    generalize kset κ2 n1 .dead = κ3 at F3
    clear f1 f2 e2 hn1
    (repeat walk_at "st")
    refine e_met ?_
    (repeat walk_at "st")
    refine o_met "Outline" ["kept_rounds"] [.node .tup (rows.map rdD)] rfl rfl ?_
    (repeat walk_at "st")
    refine ends_q O fun ne κ4 hne e4 f4 => ?_
    (repeat walk_at "st")
    refine e_met ?_
    (repeat walk_at "st")
    refine o_met "Outline" ["kept_rounds"] [.node .tup (rows.map rdD)] rfl rfl ?_
    (repeat walk_at "st")
    refine truths_q O fun κ5 f5 => ?_
    have e5 := f5 _ _ e4
    have F5 := F3.trans (f4.trans f5)
    have B5 := By.fa' hB F5
    have hne0 := hn_of F3 hne
    have hneb : ne ≠ b := fun z => by
      obtain ⟨_, _, q⟩ := hB.is
      rw [← z, hne0] at q
      cases q
    have R5 : ∀ κ', Fr b κ5 κ' → RwP κ' d rows := fun κ' f => hdb κ' ((Fa.fr' F5).trans f)
    clear F3 f4 f5 e4 hne F5 hdb R
    (repeat walk_at "st")
    intro n2 hn2
    have hnb2 := B5.ne hn2
    have hn2e : ne ≠ n2 := kne e5 hn2
    refine ⟨trivial, ?_⟩
    rw [bi_inl]
    simp only [dwipe, List.set_cons_zero, List.set_cons_succ]
    refine t_yes (i_T ?_)
    have W0 : ∀ κ', Fr b κ5 κ' → WL κ' (.cell ne) ((endsL rows).map D.int) := fun κ' f => .cell (f _ _ hneb e5)
    have K1 : ∀ l, Fr b κ5 (kset κ5 n2 l) := fun l => Fr.set hn2
    refine hand_q (κ0 := κ5) (b := b) (m := m) (xs := rows.flatten.map fun p => plQ (v1 base p.1)) (by with_unfolding_all rfl) (by with_unfolding_all rfl) (fun κ' _ => .lst) (K1 _) (B5.set hnb2) (by omega) fun t1 y1 κ6 W1 B6 f6 => ?_
    have F6 := (K1 _).trans f6
    refine ⟨f6 _ _ hnb2 kset_same, by decide, ?_⟩
    simp only [List.nil_append, List.cons_append]
    refine ⟨trivial, ?_⟩
    rw [bi_inl]
    simp only [dwipe, List.set_cons_zero, List.set_cons_succ]
    refine t_yes (i_T ?_)
    refine hand_q (κ0 := κ5) (b := b) (m := m + 1) (xs := (endsL rows).map D.int) (by with_unfolding_all rfl) (by with_unfolding_all rfl) W0 (F6.put hn2) (B6.set hnb2) (by omega) fun t2 y2 κ7 W2 B7 f7 => ?_
    have F7 := (F6.put hn2).trans f7
    refine ⟨f7 _ _ hnb2 kset_same, by unfold sizeLine; simp, ?_⟩
    simp only [List.nil_append, List.cons_append]
    refine ⟨trivial, ?_⟩
    rw [bi_inl]
    simp only [dwipe, List.set_cons_zero, List.set_cons_succ]
    refine t_yes (i_T ?_)
    refine hand_q (κ0 := κ5) (b := b) (m := m + 2) (xs := rows.flatten.map fun p => D.bl p.2) (by with_unfolding_all rfl) (by with_unfolding_all rfl) (fun κ' f => .lst) (F7.put hn2) (B7.set hnb2) (by omega) fun t3 y3 κ8 W3 B8 f8 => ?_
    have F8 := (F7.put hn2).trans f8
    refine ⟨f8 _ _ hnb2 kset_same, by unfold sizeLine; simp, trivial, kset_same, ?_⟩
    simp only [List.nil_append, List.cons_append]
    have F9 := (F8.put (c := .live .lst ([y1, y2, y3])) hn2).put (c := .dead) hn2
    have B9 : By b (m + 3) (kset (kset κ8 n2 (.live .lst ([y1, y2, y3]))) n2 .dead) := (B8.set hnb2).set hnb2
    generalize kset (kset κ8 n2 (.live .lst ([y1, y2, y3]))) n2 .dead = κ9 at F9 B9
    clear f6 f7 f8 B6 B7 B8 F6 F7 F8 K1
    have L1 : (rows.flatten.map fun p => plQ (v1 base p.1)) = (rows.map (mkR base)).flatten.map fun r => plQ r.1 := by
      rw [flat_mk, List.map_map]
      rfl
    have L2 : (endsL rows).map D.int = (endsL (rows.map (mkR base))).map D.int := by rw [ends_same]
    have L3 : (rows.flatten.map fun p => D.bl p.2) = (rows.map (mkR base)).flatten.map fun r => D.bl r.2 := by
      rw [flat_mk, List.map_map]
      rfl
    rw [L1] at W1
    rw [L2] at W2
    rw [L3] at W3
    rw [← ends_same base] at hends
    have G0 : ∀ r ∈ rows.map (mkR base), r ≠ [] ∧ r.length ≤ 12 := fun r hr => by
      obtain ⟨q, hq, rfl⟩ := List.mem_map.mp hr
      have hl := O.rl q hq
      unfold mkR
      rw [List.length_map]
      exact ⟨fun z => by rw [List.map_eq_nil_iff] at z; rw [z, List.length_nil] at hl; omega, hl.2⟩
    have Gs : ∀ r ∈ rows.map (mkR base), ∀ x ∈ r, SzP 40 x.1 := fun r hr x hx => by
      obtain ⟨q, hq, rfl⟩ := List.mem_map.mp hr
      obtain ⟨p, hp, rfl⟩ := List.mem_map.mp hx
      exact v1_sz (O.pt q hq p hp) hb0 hb
    have Gl : (rows.map (mkR base)).flatten.length ≤ 48 := by
      rw [flat_mk, List.length_map]
      exact hfl
    have Gf : ∀ r ∈ (rows.map (mkR base)).flatten, SzP 40 r.1 := fun x hx => by
      obtain ⟨r, hr, hx⟩ := List.mem_flatten.mp hx
      exact Gs r hr x hx
    have HR : ∀ {κ' : Kap} {Q' : DQ}, Fr b κ5 κ' → (SeqAt.shaped (.str (hdP t1 t2 t3 (rows.map (mkR base)).flatten (endsL (rows.map (mkR base)))).shown) = true → Q' (.str (hdP t1 t2 t3 (rows.map (mkR base)).flatten (endsL (rows.map (mkR base)))).shown) κ') → fRepr [.node .lst [y1, y2, y3]] κ' Q' := fun f q =>
      hd_repr (W1 _ f) (W2 _ f) (W3 _ f) Gl Gf hends.1 hends.2 q
    (repeat walk_at "st")
    refine HR F9 fun shH => ?_
    (repeat walk_at "st")
    refine take_spec B9 (by omega) (by decide) (by decide) fun u1 κ10 u10 u11 B10 f10 => ?_
    (repeat walk_at "st")
    refine take_spec B10 (by omega) (by decide) (by decide) fun u2 κ11 u20 u21 B11 f11 => ?_
    have F11 := F9.trans (f10.trans f11)
    have R11 := R5 _ F11
    have HRf : ∀ {κ' : Kap} {Q' : DQ}, Fa κ11 κ' → (SeqAt.shaped (.str (hdP t1 t2 t3 (rows.map (mkR base)).flatten (endsL (rows.map (mkR base)))).shown) = true → Q' (.str (hdP t1 t2 t3 (rows.map (mkR base)).flatten (endsL (rows.map (mkR base)))).shown) κ') → fRepr [.node .lst [y1, y2, y3]] κ' Q' := fun f q => HR (F11.trans (Fa.fr' f)) q
    have W1' := W1 _ F11
    have W2' := W2 _ F11
    have W3' := W3 _ F11
    clear HR W1 W2 W3 f10 f11 F9 B9 B10 F11 R5 e5 hne0 hn2 hn2e hnb2 W0 B5
    (repeat walk_at "st")
    refine dl_ix (fun i δ κ' => (∃ a7 a8 a9 a10 a11 a12 a13, δ = [some (.cell b), some d, some (obD rows), some (.int base), some (.node .lst ((rows.map (mkR base)).flatten.map fun r => plQ r.1)), some (.node .lst [y1, y2, y3]), some (.str (hdP t1 t2 t3 (rows.map (mkR base)).flatten (endsL (rows.map (mkR base)))).shown), a7, a8, a9, a10, a11, a12, a13]) ∧ Fa κ11 κ') ?_ ?_ ⟨⟨_, _, _, _, _, _, _, by rw [L1]⟩, Fa.refl⟩
    · rintro δ κ' ⟨⟨a7, a8, a9, a10, a11, a12, a13, rfl⟩, f⟩
      refine ⟨trivial, ?_⟩
      (repeat walk_at "st")
      exact h κ'
    · rintro i e δ κ' L he hL ⟨⟨a7, a8, a9, a10, a11, a12, a13, rfl⟩, f⟩
      have he' : ∃ M : Nat, e = .int (M : Nat) ∧ M ≤ 4 := by
        have := List.mem_of_getElem? he
        simp only [List.mem_cons, List.not_mem_nil, or_false] at this
        rcases this with rfl | rfl | rfl | rfl | rfl
        · exact ⟨(u1 + 1).toNat, by rw [Int.toNat_of_nonneg (by omega)], by omega⟩
        · exact ⟨0, rfl, by decide⟩
        · exact ⟨(u2 + 1).toNat, by rw [Int.toNat_of_nonneg (by omega)], by omega⟩
        · exact ⟨2, rfl, by decide⟩
        · exact ⟨1, rfl, by decide⟩
      obtain ⟨M, rfl, M4⟩ := he'
      obtain ⟨mm, hmm, mm1, mm4⟩ : ∃ mm : Nat, ((M = 0 ∧ mm = 2) ∨ (M ≠ 0 ∧ mm = M)) ∧ 1 ≤ mm ∧ mm ≤ 4 := by
        by_cases hM : M = 0
        · exact ⟨2, .inl ⟨hM, rfl⟩, by decide, by decide⟩
        · exact ⟨M, .inr ⟨hM, rfl⟩, by omega, M4⟩
      have BP := lpol_bp O mm1 mm4 hb0 hb
      have RR := R11.mono f
      obtain ⟨xs, wx, hxl, hx⟩ := RR.at
      refine ⟨trivial, ?_⟩
      (repeat walk_at "st")
      refine q_wk wx.wk fun gd hgd => ?_
      intro n3 hn3
      refine lcLoop_ix (fun j acc κ2 => ∃ ms : List Nat, acc = ms.map D.cell ∧ n3 ∉ ms ∧ Cs κ2 ms ((polsR mm base (rows.take j)).map fun ps => ps.map plQ) ∧ κ2 n3 = some (.live .lst acc) ∧ Fa κ' κ2) ?_ ?_ ⟨[], rfl, List.not_mem_nil, Cs.nil, kset_same, Fa.new hn3⟩
      · rintro acc κ2 ⟨ms, rfl, hni, C, e3, f3⟩
        rw [hxl, List.take_length] at C
        refine ⟨hgd _ f3, e3, ?_⟩
        have F3 := f3.put (c := .dead) hn3
        have C3 : Cs (kset κ2 n3 .dead) ms ((polsR mm base rows).map fun ps => ps.map plQ) := C.set hni
        generalize kset κ2 n3 .dead = κ3 at F3 C3
        clear e3 f3 C hni
        have e3k := pols_same mm1 hb0 rows
        have BPx : Bp (polsR mm base rows) := BP
        have hpl : (polsR mm base rows).length = rows.length := by
          unfold polsR
          rw [List.length_map]
        have hr0 := O.l0
        refine g_n8 (s_seq (s_thr (fun δ κ4 => ∃ nf mf, δ = [some (.cell b), some d, some (obD rows), some (.int base), some (.node .lst ((rows.map (mkR base)).flatten.map fun r => plQ r.1)), some (.node .lst [y1, y2, y3]), some (.str (hdP t1 t2 t3 (rows.map (mkR base)).flatten (endsL (rows.map (mkR base)))).shown), some (.int (M : Nat)), some (.node .lst (ms.map D.cell)), some (.cell nf), a10, a11, a12, a13] ∧ κ3 nf = none ∧ nf ∉ mf ∧ (∀ x ∈ mf, κ3 x = none) ∧ κ4 nf = some (.live .lst (mf.map D.cell)) ∧ Cs κ4 mf ((polsR mm base rows).map fun ps => ps.map plQ) ∧ Fa κ3 κ4) ?_ ?_))
        · intro n' hn'
          have G4 : (rows.map (mkR base)).length ≤ 4 := by
            rw [List.length_map]
            exact O.l4
          have F := f.trans F3
          have pol := fun (Q' : DQ) (X' : Str → List D → Kap → Prop) (hq : ∀ n mf κ4, κ3 n = none → n ∉ mf → (∀ x ∈ mf, κ3 x = none) → κ4 n = some (.live .lst (mf.map D.cell)) → Cs κ4 mf ((rows.map (mkR base)).map (polI mm)) → Fa κ3 κ4 → Q' (.cell n) κ4) => polygons_q (κ := κ3) (X := X') (Q := Q') (m := mm) (W1'.mono F).wk (W2'.mono F).wk (W3'.mono F).wk G0 G4 Gs (by decide) mm1 mm4 hq
          rw [e3k] at pol
          rcases hmm with ⟨rfl, rfl⟩ | ⟨hM, rfl⟩
          · (repeat walk_at "st")
            refine pol _ _ fun nf mf κ4 h1 h2 h3 h4 h5 h6 => ?_
            (repeat walk_at "st")
            exact hn' _ _ ⟨nf, mf, rfl, h1, h2, h3, h4, h5, h6⟩
          · (repeat walk_at "st")
            refine pol _ _ fun nf mf κ4 h1 h2 h3 h4 h5 h6 => ?_
            (repeat walk_at "st")
            exact hn' _ _ ⟨nf, mf, rfl, h1, h2, h3, h4, h5, h6⟩
        · rintro δ κ4 ⟨nf, mf, rfl, hnf, hnm, hmf, e4, C4, F4⟩
          have C34 : Cs κ4 ms ((polsR mm base rows).map fun ps => ps.map plQ) := C3.mono fun x _ c hc => F4 _ _ hc
          have Fall := (f.trans F3).trans F4
          have hfm : mf.length ≤ 4 := by
            rw [C4.1, List.length_map, hpl]
            exact O.l4
          have hms : ms.length ≤ 4 := by
            rw [C34.1, List.length_map, hpl]
            exact O.l4
          have w0 : mf.length = rows.length := by rw [C4.1, List.length_map, hpl]
          have w1 : ms.length = rows.length := by rw [C34.1, List.length_map, hpl]
          have frs : ∀ {x : Nat}, κ3 x = none → κ11 x = none := fun hx => hn_of (f.trans F3) hx
          have dis : ∀ x ∈ ms, x ∉ mf := fun x hx hz => by
            obtain ⟨ys, hy⟩ := C3.is hx
            rw [hmf x hz] at hy
            cases hy
          (repeat walk_at "st")
          refine repr_cs (.cell e4) C4 BPx fun shA => ?_
          (repeat walk_at "st")
          refine repr_cs .lst C34 BPx fun _ => ?_
          (repeat walk_at "st")
          refine f_neSS shA ?_
          (repeat walk_at "st")
          refine HRf Fall fun _ => ?_
          (repeat walk_at "st")
          refine f_neSS shH ?_
          cases mf with
          | nil =>
            rw [List.length_nil] at w0
            omega
          | cons m0 mf =>
            have hps : ∃ p0 pss, polsR mm base rows = p0 :: pss := by
              cases hq : polsR mm base rows with
              | nil =>
                rw [hq, List.length_nil] at hpl
                omega
              | cons p0 pss => exact ⟨p0, pss, rfl⟩
            obtain ⟨p0, pss, hps⟩ := hps
            rw [hps] at C4 C34 BPx
            obtain ⟨em, hm0, Ct⟩ := Cs.tail (yss := pss.map fun ps => ps.map plQ) C4
            have hm03 : κ3 m0 = none := hmf m0 List.mem_cons_self
            have hp0 := (BPx.2 p0 List.mem_cons_self).1
            have hnm0 : nf ≠ m0 := fun z => hnm (by rw [z]; exact List.mem_cons_self)
            (repeat walk_at "st")
            refine ix_wl (.cell e4) (at_nat (n := 0) (xs := (m0 :: mf).map D.cell) rfl) ?_
            refine isq_cell em ?_
            (repeat walk_at "st")
            refine f_app em (by rw [List.length_map]; omega) ?_
            have C5 : Cs (kset κ4 m0 (.live .lst (p0.map plQ ++ [.str (Str.ofString "more")]))) mf (pss.map fun ps => ps.map plQ) := Ct.set hm0
            have D5 : Cs (kset κ4 m0 (.live .lst (p0.map plQ ++ [.str (Str.ofString "more")]))) (ms.drop 1) (((p0 :: pss).map fun ps => ps.map plQ).drop 1) := (C34.drop 1).set fun z => dis _ (List.mem_of_mem_drop z) List.mem_cons_self
            have e5 : (kset κ4 m0 (.live .lst (p0.map plQ ++ [.str (Str.ofString "more")]))) nf = some (.live .lst ((m0 :: mf).map D.cell)) := by
              rw [kset_ne hnm0]
              exact e4
            have F5 : Fa κ11 (kset κ4 m0 (.live .lst (p0.map plQ ++ [.str (Str.ofString "more")]))) := Fall.put (frs hm03)
            generalize kset κ4 m0 (.live .lst (p0.map plQ ++ [.str (Str.ofString "more")])) = κ6 at C5 D5 e5 F5 ⊢
            (repeat walk_at "st")
            refine sl_C e5 ?_
            rw [show (1 : Int) = ((1 : Nat) : Int) from rfl, cut_lo (by rw [List.length_map]; simp)]
            (repeat walk_at "st")
            refine repr_cs (ms := mf) (pss := pss) .lst C5 (BPx.drop 1) fun shB => ?_
            (repeat walk_at "st")
            rw [cut_lo (by rw [List.length_map]; omega), ← List.map_drop]
            refine repr_cs (ms := ms.drop 1) (pss := pss) .lst D5 (BPx.drop 1) fun _ => ?_
            (repeat walk_at "st")
            refine f_neSS shB ?_
            (repeat walk_at "st")
            refine e_bm0 ?_
            (repeat walk_at "st")
            refine isq_cell e5 ?_
            refine ⟨nf, _, rfl, e5, ?_⟩
            exact hL _ _ ⟨⟨_, _, _, _, _, _, _, rfl⟩, F5.put (frs hnf)⟩
      · rintro j x acc κ2 L2 hj hL2 ⟨ms, rfl, hni, C, e3, f3⟩
        obtain ⟨r, hr, wr⟩ := hx j x hj
        have hrm := List.mem_of_getElem? hr
        have hrl := O.rl r hrm
        have hml : ms.length ≤ 4 := by
          have h1 := C.1
          unfold polsR at h1
          rw [List.length_map, List.length_map, List.length_take] at h1
          have := O.l4
          omega
        refine ⟨hgd _ f3, ?_⟩
        rw [bi_inl]
        simp only [dwipe, List.set_cons_zero, List.set_cons_succ]
        have fin : ∀ n κ4, κ2 n = none → κ4 n = some (.live .lst ((lpolI mm base (lringI r)).map plQ)) → Fa κ2 κ4 → κ4 n3 = some (.live .lst (ms.map D.cell)) ∧ (ms.map D.cell).length < sizeLine ∧ L2 (ms.map D.cell ++ [.cell n]) (kset κ4 n3 (.live .lst (ms.map D.cell ++ [.cell n]))) := fun n κ4 hn e4 f4 => by
          have hn3n : n ≠ n3 := fun z => by
            rw [z, e3] at hn
            cases hn
          refine ⟨f4 _ _ e3, by rw [List.length_map]; unfold sizeLine; omega, hL2 _ _ ⟨ms ++ [n], by rw [List.map_append]; rfl, ?_, ?_, kset_same, (f3.trans f4).put hn3⟩⟩
          · intro z
            rcases List.mem_append.mp z with z | z
            · exact hni z
            · exact hn3n (List.mem_singleton.mp z).symm
          · have e5 : polsR mm base (rows.take (j + 1)) = polsR mm base (rows.take j) ++ [lpolI mm base (lringI r)] := by
              unfold polsR
              rw [List.take_succ, hr, List.map_append]
              rfl
            rw [e5, List.map_append]
            refine (C.snoc f4 hn e4).set fun z => ?_
            rcases List.mem_append.mp z with z | z
            · exact hni z
            · exact hn3n (List.mem_singleton.mp z).symm
        rcases hmm with ⟨rfl, rfl⟩ | ⟨hM, rfl⟩
        · (repeat walk_at "st")
          show fIx (.node .lst [.int ((0 : Nat) : Int), .int 2]) (.int 1) _ _
          (repeat walk_at "st")
          refine lpolygon_q (wr.mono f3) (fun z => by rw [z, List.length_nil] at hrl; omega) hrl.2 (O.pt r hrm) mm1 mm4 hb0 hb ?_
          exact fin
        · (repeat walk_at "st")
          rw [if_neg (by rw [decide_eq_false (show ¬ ((mm : Nat) : Int) = 0 by omega)]; decide)]
          (repeat walk_at "st")
          refine lpolygon_q (wr.mono f3) (fun z => by rw [z, List.length_nil] at hrl; omega) hrl.2 (O.pt r hrm) mm1 mm4 hb0 hb ?_
          exact fin
  · rintro j x acc κ2 L hx hL ⟨rfl, e2, f2⟩
    rw [List.getElem?_map, Option.map_eq_some_iff] at hx
    obtain ⟨p, hp, rfl⟩ := hx
    refine ⟨trivial, ?_⟩
    unfold prD
    rw [bi_inr rfl]
    simp only [dwipe, List.set_cons_zero, List.set_cons_succ]
    (repeat walk_at "st")
    refine lnum_i hb0 hbb ?_
    (repeat walk_at "st")
    refine lnum_i hb0 hbb ?_
    (repeat walk_at "st")
    refine ⟨e2, by rw [List.length_map, List.length_take]; unfold sizeLine; omega, hL _ _ ⟨?_, kset_same, f2.put hn1⟩⟩
    rw [List.take_succ, hp, List.map_append]
    rfl
end



def Rl (κ : Kap) (xs : List D) (rows : List (List Pb)) : Prop := xs.length = rows.length ∧ ∀ (j : Nat) (r : List Pb), rows[j]? = some r → ∃ e, xs[j]? = some e ∧ WL κ e (r.map ptD)
theorem Rl.snoc {κ : Kap} {xs : List D} {rows : List (List Pb)} {r : List Pb} (h : Rl κ xs rows) : Rl κ (xs ++ [.node .lst (r.map ptD)]) (rows ++ [r]) := by
  refine ⟨by rw [List.length_append, List.length_append, h.1]; rfl, fun j q hq => ?_⟩
  by_cases hj : j < rows.length
  · rw [List.getElem?_append_left hj] at hq
    rw [List.getElem?_append_left (by rw [h.1]; exact hj)]
    exact h.2 j q hq
  · have hj1 := (List.getElem?_eq_some_iff.mp hq).1
    rw [List.length_append, List.length_cons, List.length_nil] at hj1
    have ej : j = rows.length := by omega
    subst ej
    rw [List.getElem?_append_right (Nat.le_refl _), Nat.sub_self] at hq
    cases hq
    rw [List.getElem?_append_right (by rw [h.1]; exact Nat.le_refl _), h.1, Nat.sub_self]
    exact ⟨_, rfl, .lst⟩
theorem Rl.drop {κ : Kap} {xs : List D} {rows : List (List Pb)} (h : Rl κ xs rows) (k : Nat) : Rl κ (xs.drop k) (rows.drop k) := by
  refine ⟨by rw [List.length_drop, List.length_drop, h.1], fun j q hq => ?_⟩
  rw [List.getElem?_drop] at hq ⊢
  exact h.2 _ _ hq
theorem Cs.rl {κ : Kap} {ms : List Nat} {rows : List (List Pb)} (C : Cs κ ms (rows.map fun r => r.map ptD)) : Rl κ (ms.map D.cell) rows := by
  refine ⟨by rw [List.length_map, C.1, List.length_map], fun j r hr => ?_⟩
  have hj := (List.getElem?_eq_some_iff.mp hr).1
  have hjm : j < ms.length := by
    rw [C.1, List.length_map]
    exact hj
  refine ⟨.cell ms[j], by rw [List.getElem?_map, List.getElem?_eq_getElem hjm]; rfl, .cell ?_⟩
  exact C.2.2 j _ _ (List.getElem?_eq_getElem hjm) (by rw [List.getElem?_map, hr]; rfl)
theorem cut_m4 {xs : List D} : cutD xs (some (-4)) none = xs.drop (xs.length - 4) := by
  unfold cutD
  have e : HT.sIx xs.length 0 (some (-4)) = xs.length - 4 := by
    show (if (-4 : Int) < 0 then ((-4 : Int) + (xs.length : Int)).toNat else min (-4 : Int).toNat xs.length) = _
    rw [if_pos (by decide)]
    omega
  rw [HT.sIx_none, e]
  exact List.take_of_length_le (by rw [List.length_drop]; exact Nat.le_refl _)
theorem law_true : ∀ ns : List Int, ns.length ≤ 63 → sp_law [.node .klst (ns.map D.int)] (fun _ => none) (fun _ _ _ => False) (fun d _ => d = .bl true) := by
  intro ns hns
  generalize (fun _ => none : Kap) = κ0
  (unfold sp_law; refine s_sp rfl ?_; simp only [startD, List.map_cons, List.map_nil, List.length_cons, List.length_nil, Nat.zero_add, Nat.reduceAdd, Nat.reduceSub, List.replicate, List.cons_append, List.nil_append]; unfold b_law)
  (repeat walk_at "st")
  rw [List.length_map]
  have hr : ∃ r : Nat, (if (if (ns.length : Int) < 6 then (ns.length : Int) else 6) > 2 then (if (ns.length : Int) < 6 then (ns.length : Int) else 6) else 2) = (r : Int) ∧ r ≤ 6 := by
    refine ⟨(if (if (ns.length : Int) < 6 then (ns.length : Int) else 6) > 2 then (if (ns.length : Int) < 6 then (ns.length : Int) else 6) else 2).toNat, ?_, ?_⟩
    · split <;> split <;> omega
    · split <;> split <;> omega
  obtain ⟨r, er, hr⟩ := hr
  rw [er]
  (repeat walk_at "st")
  refine dl_ix (fun i δ κ' => ∃ (a1 a2 a3 a4 : Option D), δ = [some (.node .klst (ns.map D.int)), a1, a2, a3, a4]) ?_ ?_ ⟨_, _, _, _, rfl⟩
  · rintro δ κ ⟨a1, a2, a3, a4, rfl⟩
    refine ⟨trivial, ?_⟩
    (repeat walk_at "st")
    rfl
  · rintro i d δ κ L hd hL ⟨a1, a2, a3, a4, rfl⟩
    obtain ⟨hi, rfl⟩ := rangeD_get hd
    have hi' : i < r := by omega
    refine ⟨trivial, ?_⟩
    rw [Int.zero_add]
    (repeat walk_at "st")
    refine cell_spec (by omega) fun c => ?_
    (repeat walk_at "st")
    refine box_spec fun b κ1 hb B0 _ => ?_
    (repeat walk_at "st")
    refine take_spec B0 (by decide) (by decide) (by decide) fun t1 κ2 t10 t11 B1 _ => ?_
    (repeat walk_at "st")
    refine take_spec B1 (by decide) (by decide) (by decide) fun t2 κ3 t20 t21 B2 _ => ?_
    refine f_ixM t20 (by simp only [List.length_cons, List.length_nil]; omega) fun d hd => ?_
    have ed : ∃ base : Int, d = .int base ∧ 0 < base ∧ base ≤ 64 := by
      simp only [List.mem_cons, List.not_mem_nil, or_false] at hd
      rcases hd with rfl | rfl | rfl | rfl | rfl | rfl
      · exact ⟨_, rfl, by decide, by decide⟩
      · exact ⟨_, rfl, by decide, by decide⟩
      · exact ⟨_, rfl, by decide, by decide⟩
      · exact ⟨_, rfl, by decide, by decide⟩
      · exact ⟨_, rfl, by decide, by decide⟩
      · exact ⟨_, rfl, by omega, by omega⟩
    obtain ⟨base, rfl, hb0, hb64⟩ := ed
    (repeat walk_at "st")
    refine rounds_q B2 (by omega) fun n κ4 ms rows hn hnb hni hbi e4 C4 O4 B4 f4 => ?_
    refine g_n4 (s_seq (s_thr (fun δ κ' => ∃ (d : D) (rows : List (List Pb)) (a1 : Option D), δ = [some (.node .klst (ns.map D.int)), a1, some (.cell b), some (.int base), some d] ∧ Ow rows ∧ By b 1000 κ' ∧ ∀ κ'', Fr b κ' κ'' → RwP κ'' d rows) ?_ ?_))
    · intro n' hn'
      (repeat walk_at "st")
      refine take_spec B4 (by omega) (by decide) (by decide) fun t3 κ5 _ _ B5 f5 => ?_
      have e5 := f5 _ _ hnb e4
      have C5 : Cs κ5 ms (rows.map fun r => r.map ptD) := C4.mono fun x hx c hc => f5 _ _ (fun z => hbi (by rw [← z]; exact hx)) hc
      clear e4 C4 f4 f5 B4 B2
      (repeat walk_at "st")
      refine i_d (fun h0 => ?_) fun h0 => ?_
      · have hl0 := O4.l0
        have hms : ms.length = rows.length := by rw [C5.1, List.length_map]
        obtain ⟨r0, rows, rfl⟩ : ∃ r0 rs, rows = r0 :: rs := by
          cases rows with
          | nil => simp at hl0
          | cons r0 rs => exact ⟨r0, rs, rfl⟩
        obtain ⟨m0, ms, rfl⟩ : ∃ m0 rs, ms = m0 :: rs := by
          cases ms with
          | nil => simp at hms
          | cons r0 rs => exact ⟨r0, rs, rfl⟩
        have em := (Cs.tail (yss := rows.map fun r => r.map ptD) C5).1
        have l4 := O4.l4
        (repeat walk_at "st")
        refine ix_wl (.cell e5) (at_nat (n := 0) (xs := (m0 :: ms).map D.cell) rfl) ?_
        (repeat walk_at "st")
        refine ⟨r0.map ptD, ⟨_, vw_cell em, .inl rfl⟩, ?_⟩
        (repeat walk_at "st")
        refine ad_wl (.cell e5) .lst (by rw [List.length_map]; unfold sizeLine; simp only [List.length_cons, List.length_nil] at hms l4 ⊢; omega) ?_
        (repeat walk_at "st")
        rw [cut_m4]
        have hX : Rl κ5 ((m0 :: ms).map D.cell ++ [D.node .lst (r0.map ptD)]) ((r0 :: rows) ++ [r0]) := (Cs.rl C5).snoc
        have hxl := hX.1
        generalize hk : ((m0 :: ms).map D.cell ++ [D.node .lst (r0.map ptD)]).length - 4 = k
        have hl5 : ((r0 :: rows) ++ [r0]).length = rows.length + 2 := by
          rw [List.length_append]
          rfl
        have l4' : rows.length + 1 ≤ 4 := l4
        rw [hxl, hl5] at hk
        refine hn' _ _ ⟨_, ((r0 :: rows) ++ [r0]).drop k, _, rfl, ⟨by rw [List.length_drop, hl5]; omega, by rw [List.length_drop, hl5]; omega, fun r h => ?_, fun r h => ?_⟩, B5.mono (by decide), fun κ' f => ?_⟩
        · refine O4.rl r ?_
          rcases List.mem_append.mp (List.mem_of_mem_drop h) with z | z
          · exact z
          · rw [List.mem_singleton.mp z]
            exact List.mem_cons_self
        · refine O4.pt r ?_
          rcases List.mem_append.mp (List.mem_of_mem_drop h) with z | z
          · exact z
          · rw [List.mem_singleton.mp z]
            exact List.mem_cons_self
        · have C6 : Cs κ' (m0 :: ms) ((r0 :: rows).map fun r => r.map ptD) := C5.mono fun x hx c hc => f _ _ (fun z => hbi (by rw [← z]; exact hx)) hc
          have hR := ((Cs.rl C6).snoc (r := r0)).drop k
          exact ⟨_, .lst, hR.1, hR.2⟩
      · (repeat walk_at "st")
        refine hn' _ _ ⟨.cell n, rows, _, rfl, O4, B5.mono (by decide), fun κ' f => ?_⟩
        have C6 : Cs κ' ms (rows.map fun r => r.map ptD) := C5.mono fun x hx c hc => f _ _ (fun z => hbi (by rw [← z]; exact hx)) hc
        exact C6.rows (f _ _ hnb e5)
    · rintro δ κ5 ⟨d, rows, a1, rfl, O, B5, R⟩
      (repeat walk_at "st")
      refine e_mkO ?_
      (repeat walk_at "st")
      intro n2 hn2
      refine outline_q hn2 (R _ Fr.refl) O fun κ6 f6 => ?_
      (repeat walk_at "st")
      refine right_q (By.fa' B5 f6) (by omega) (R _ (Fa.fr' f6)) (fun κ' f => R _ ((Fa.fr' f6).trans f)) O hb0 hb64 fun κ7 => ?_
      (repeat walk_at "st")
      exact hL _ _ ⟨_, _, _, _, rfl⟩

end L_k23
namespace L_k23
open PySem PySem.Spec PyProof.Rows L2 DL
/-! what the top has left -/
theorem all_mk {l : PySem.W.OpenLaw} {w : World} {K : PySem.W.Frag} {h : Heap} {mg : Str → Option Value} {fa : Addr} {f_Outline_ends : Addr} {od_Outline_ends an_Outline_ends : Option Addr} {sl_Outline_ends : Array (Option Value)} {oc_Outline_ends kV_Outline_ends dc_Outline_ends pm_Outline_ends cd_Outline_ends ct_Outline_ends : Value} {f_Outline_points : Addr} {od_Outline_points an_Outline_points : Option Addr} {sl_Outline_points : Array (Option Value)} {oc_Outline_points kV_Outline_points dc_Outline_points pm_Outline_points cd_Outline_points ct_Outline_points : Value} {f_Outline_truths : Addr} {od_Outline_truths an_Outline_truths : Option Addr} {sl_Outline_truths : Array (Option Value)} {oc_Outline_truths kV_Outline_truths dc_Outline_truths pm_Outline_truths cd_Outline_truths ct_Outline_truths : Value} {f_Outline_places : Addr} {od_Outline_places an_Outline_places : Option Addr} {sl_Outline_places : Array (Option Value)} {oc_Outline_places kV_Outline_places dc_Outline_places pm_Outline_places cd_Outline_places ct_Outline_places : Value} {f_is_plain : Addr} {od_is_plain an_is_plain : Option Addr} {sl_is_plain : Array (Option Value)} {oc_is_plain kV_is_plain dc_is_plain pm_is_plain cd_is_plain ct_is_plain : Value} {f_is_whole : Addr} {od_is_whole an_is_whole : Option Addr} {sl_is_whole : Array (Option Value)} {oc_is_whole kV_is_whole dc_is_whole pm_is_whole cd_is_whole ct_is_whole : Value} {f_common_part : Addr} {od_common_part an_common_part : Option Addr} {sl_common_part : Array (Option Value)} {oc_common_part kV_common_part dc_common_part pm_common_part cd_common_part ct_common_part : Value} {f_is_part : Addr} {od_is_part an_is_part : Option Addr} {sl_is_part : Array (Option Value)} {oc_is_part kV_is_part dc_is_part pm_is_part cd_is_part ct_is_part : Value} {f_reckoned : Addr} {od_reckoned an_reckoned : Option Addr} {sl_reckoned : Array (Option Value)} {oc_reckoned kV_reckoned dc_reckoned pm_reckoned cd_reckoned ct_reckoned : Value} {f_fraction : Addr} {od_fraction an_fraction : Option Addr} {sl_fraction : Array (Option Value)} {oc_fraction kV_fraction dc_fraction pm_fraction cd_fraction ct_fraction : Value} {f_pair_of : Addr} {od_pair_of an_pair_of : Option Addr} {sl_pair_of : Array (Option Value)} {oc_pair_of kV_pair_of dc_pair_of pm_pair_of cd_pair_of ct_pair_of : Value} {f_plus : Addr} {od_plus an_plus : Option Addr} {sl_plus : Array (Option Value)} {oc_plus kV_plus dc_plus pm_plus cd_plus ct_plus : Value} {f_times : Addr} {od_times an_times : Option Addr} {sl_times : Array (Option Value)} {oc_times kV_times dc_times pm_times cd_times ct_times : Value} {f_is_list : Addr} {od_is_list an_is_list : Option Addr} {sl_is_list : Array (Option Value)} {oc_is_list kV_is_list dc_is_list pm_is_list cd_is_list ct_is_list : Value} {f_is_point : Addr} {od_is_point an_is_point : Option Addr} {sl_is_point : Array (Option Value)} {oc_is_point kV_is_point dc_is_point pm_is_point cd_is_point ct_is_point : Value} {f_need_points : Addr} {od_need_points an_need_points : Option Addr} {sl_need_points : Array (Option Value)} {oc_need_points kV_need_points dc_need_points pm_need_points cd_need_points ct_need_points : Value} {f_Outline_init : Addr} {od_Outline_init an_Outline_init : Option Addr} {sl_Outline_init : Array (Option Value)} {oc_Outline_init kV_Outline_init dc_Outline_init pm_Outline_init cd_Outline_init ct_Outline_init : Value} {f_mixed : Addr} {od_mixed an_mixed : Option Addr} {sl_mixed : Array (Option Value)} {oc_mixed kV_mixed dc_mixed pm_mixed cd_mixed ct_mixed : Value} {f_amid : Addr} {od_amid an_amid : Option Addr} {sl_amid : Array (Option Value)} {oc_amid kV_amid dc_amid pm_amid cd_amid ct_amid : Value} {f_curve_cut : Addr} {od_curve_cut an_curve_cut : Option Addr} {sl_curve_cut : Array (Option Value)} {oc_curve_cut kV_curve_cut dc_curve_cut pm_curve_cut cd_curve_cut ct_curve_cut : Value} {f_filled_up : Addr} {od_filled_up an_filled_up : Option Addr} {sl_filled_up : Array (Option Value)} {oc_filled_up kV_filled_up dc_filled_up pm_filled_up cd_filled_up ct_filled_up : Value} {f_polygon_of : Addr} {od_polygon_of an_polygon_of : Option Addr} {sl_polygon_of : Array (Option Value)} {oc_polygon_of kV_polygon_of dc_polygon_of pm_polygon_of cd_polygon_of ct_polygon_of : Value} {f_polygons : Addr} {od_polygons an_polygons : Option Addr} {sl_polygons : Array (Option Value)} {oc_polygons dc_polygons pm_polygons cd_polygons ct_polygons : Value} {J_polygons : Addr} {tj_polygons_0 : Tok} {f__law_cell : Addr} {od__law_cell an__law_cell : Option Addr} {sl__law_cell : Array (Option Value)} {oc__law_cell kV__law_cell dc__law_cell pm__law_cell cd__law_cell ct__law_cell : Value} {f__law_box : Addr} {od__law_box an__law_box : Option Addr} {sl__law_box : Array (Option Value)} {oc__law_box kV__law_box dc__law_box pm__law_box cd__law_box ct__law_box : Value} {f__law_take : Addr} {od__law_take an__law_take : Option Addr} {sl__law_take : Array (Option Value)} {oc__law_take kV__law_take dc__law_take pm__law_take cd__law_take ct__law_take : Value} {f__law_rounds : Addr} {od__law_rounds an__law_rounds : Option Addr} {sl__law_rounds : Array (Option Value)} {oc__law_rounds kV__law_rounds dc__law_rounds pm__law_rounds cd__law_rounds ct__law_rounds : Value} {f__law_number : Addr} {od__law_number an__law_number : Option Addr} {sl__law_number : Array (Option Value)} {oc__law_number kV__law_number dc__law_number pm__law_number cd__law_number ct__law_number : Value} {f__law_ring : Addr} {od__law_ring an__law_ring : Option Addr} {sl__law_ring : Array (Option Value)} {oc__law_ring kV__law_ring dc__law_ring pm__law_ring cd__law_ring ct__law_ring : Value} {f__law_curve : Addr} {od__law_curve an__law_curve : Option Addr} {sl__law_curve : Array (Option Value)} {oc__law_curve kV__law_curve dc__law_curve pm__law_curve cd__law_curve ct__law_curve : Value} {f__law_polygon : Addr} {od__law_polygon an__law_polygon : Option Addr} {sl__law_polygon : Array (Option Value)} {oc__law_polygon kV__law_polygon dc__law_polygon pm__law_polygon cd__law_polygon ct__law_polygon : Value} {f__law_right : Addr} {od__law_right an__law_right : Option Addr} {sl__law_right : Array (Option Value)} {oc__law_right kV__law_right dc__law_right pm__law_right cd__law_right ct__law_right : Value} {f_law : Addr} {od_law an_law : Option Addr} {sl_law : Array (Option Value)} {oc_law kV_law dc_law pm_law cd_law ct_law : Value} {t_FURTHEST : Tok} {t_LEAST_POINTS : Tok} {t_MOST_CUTS : Tok} {t_MOST_POINTS : Tok} {t_MOST_ROUNDS : Tok} {C_FontError : Addr} {C_NoLimit : Addr} {C_NoNumber : Addr} {C_NoOutline : Addr} {C_NoPoint : Addr} {C_Outline : Addr} {nm_NoLimit q_NoLimit : Str} {N_NoLimit : Addr} {bs_NoLimit : List Value} {sn_NoLimit : List Str} {sub_NoLimit : List Value} {ab_NoLimit : Bool} {col_NoLimit : Option Bool} {dd_NoLimit : Option Addr} {x0_NoLimit x1_NoLimit x2_NoLimit x3_NoLimit x5_NoLimit : Option Value} {nm_NoNumber q_NoNumber : Str} {N_NoNumber : Addr} {bs_NoNumber : List Value} {sn_NoNumber : List Str} {sub_NoNumber : List Value} {ab_NoNumber : Bool} {col_NoNumber : Option Bool} {dd_NoNumber : Option Addr} {x0_NoNumber x1_NoNumber x2_NoNumber x3_NoNumber x5_NoNumber : Option Value} {nm_NoOutline q_NoOutline : Str} {N_NoOutline : Addr} {bs_NoOutline : List Value} {sn_NoOutline : List Str} {sub_NoOutline : List Value} {ab_NoOutline : Bool} {col_NoOutline : Option Bool} {dd_NoOutline : Option Addr} {x0_NoOutline x1_NoOutline x2_NoOutline x3_NoOutline x5_NoOutline : Option Value} {nm_NoPoint q_NoPoint : Str} {N_NoPoint : Addr} {bs_NoPoint : List Value} {sn_NoPoint : List Str} {sub_NoPoint : List Value} {ab_NoPoint : Bool} {col_NoPoint : Option Bool} {dd_NoPoint : Option Addr} {x0_NoPoint x1_NoPoint x2_NoPoint x3_NoPoint x5_NoPoint : Option Value} {I_NoLimit : Addr} {iod_NoLimit ian_NoLimit : Option Addr} {isl_NoLimit : Array (Option Value)} {ioc_NoLimit ikV_NoLimit idc_NoLimit ipm_NoLimit icd_NoLimit ict_NoLimit : Value} {I_NoNumber : Addr} {iod_NoNumber ian_NoNumber : Option Addr} {isl_NoNumber : Array (Option Value)} {ioc_NoNumber ikV_NoNumber idc_NoNumber ipm_NoNumber icd_NoNumber ict_NoNumber : Value} {I_NoOutline : Addr} {iod_NoOutline ian_NoOutline : Option Addr} {isl_NoOutline : Array (Option Value)} {ioc_NoOutline ikV_NoOutline idc_NoOutline ipm_NoOutline icd_NoOutline ict_NoOutline : Value} {I_NoPoint : Addr} {iod_NoPoint ian_NoPoint : Option Addr} {isl_NoPoint : Array (Option Value)} {ioc_NoPoint ikV_NoPoint idc_NoPoint ipm_NoPoint icd_NoPoint ict_NoPoint : Value} (X : K.In h) (G : h.Ns mainGlobals mg) (hfa : mg "law" = some (.ref fa))
    (a_Outline_ends : PySem.W.findIn K (.ref C_Outline) "ends" = some (some (.ref f_Outline_ends)))
    (i_Outline_ends : PySem.W.isFn K (.ref f_Outline_ends) = true)
    (l_Outline_ends : K.lookup f_Outline_ends = some ⟨oc_Outline_ends, od_Outline_ends, .func (PySem.W.fnOf "ends" "Outline.ends" (defArgs s_Outline_ends) (defBody s_Outline_ends) (defScope s_Outline_ends) .none kV_Outline_ends dc_Outline_ends pm_Outline_ends an_Outline_ends cd_Outline_ends ct_Outline_ends), sl_Outline_ends⟩)
    (c_Outline_ends : PySem.W.codeIn K cd_Outline_ends "Outline.ends" = true)
    (k_Outline_ends : PySem.W.keepIn K (.ref f_Outline_ends) = true)
    (a_Outline_points : PySem.W.findIn K (.ref C_Outline) "points" = some (some (.ref f_Outline_points)))
    (i_Outline_points : PySem.W.isFn K (.ref f_Outline_points) = true)
    (l_Outline_points : K.lookup f_Outline_points = some ⟨oc_Outline_points, od_Outline_points, .func (PySem.W.fnOf "points" "Outline.points" (defArgs s_Outline_points) (defBody s_Outline_points) (defScope s_Outline_points) .none kV_Outline_points dc_Outline_points pm_Outline_points an_Outline_points cd_Outline_points ct_Outline_points), sl_Outline_points⟩)
    (c_Outline_points : PySem.W.codeIn K cd_Outline_points "Outline.points" = true)
    (k_Outline_points : PySem.W.keepIn K (.ref f_Outline_points) = true)
    (a_Outline_truths : PySem.W.findIn K (.ref C_Outline) "truths" = some (some (.ref f_Outline_truths)))
    (i_Outline_truths : PySem.W.isFn K (.ref f_Outline_truths) = true)
    (l_Outline_truths : K.lookup f_Outline_truths = some ⟨oc_Outline_truths, od_Outline_truths, .func (PySem.W.fnOf "truths" "Outline.truths" (defArgs s_Outline_truths) (defBody s_Outline_truths) (defScope s_Outline_truths) .none kV_Outline_truths dc_Outline_truths pm_Outline_truths an_Outline_truths cd_Outline_truths ct_Outline_truths), sl_Outline_truths⟩)
    (c_Outline_truths : PySem.W.codeIn K cd_Outline_truths "Outline.truths" = true)
    (k_Outline_truths : PySem.W.keepIn K (.ref f_Outline_truths) = true)
    (a_Outline_places : PySem.W.findIn K (.ref C_Outline) "places" = some (some (.ref f_Outline_places)))
    (i_Outline_places : PySem.W.isFn K (.ref f_Outline_places) = true)
    (l_Outline_places : K.lookup f_Outline_places = some ⟨oc_Outline_places, od_Outline_places, .func (PySem.W.fnOf "places" "Outline.places" (defArgs s_Outline_places) (defBody s_Outline_places) (defScope s_Outline_places) .none kV_Outline_places dc_Outline_places pm_Outline_places an_Outline_places cd_Outline_places ct_Outline_places), sl_Outline_places⟩)
    (c_Outline_places : PySem.W.codeIn K cd_Outline_places "Outline.places" = true)
    (k_Outline_places : PySem.W.keepIn K (.ref f_Outline_places) = true)
    (a_is_plain : PySem.W.nsIn K mainGlobals "is_plain" = some (some (.ref f_is_plain)))
    (l_is_plain : K.lookup f_is_plain = some ⟨oc_is_plain, od_is_plain, .func (PySem.W.fnOf "is_plain" "is_plain" (defArgs s_is_plain) (defBody s_is_plain) (defScope s_is_plain) .none kV_is_plain dc_is_plain pm_is_plain an_is_plain cd_is_plain ct_is_plain), sl_is_plain⟩)
    (c_is_plain : PySem.W.codeIn K cd_is_plain "is_plain" = true)
    (k_is_plain : PySem.W.keepIn K (.ref f_is_plain) = true)
    (a_is_whole : PySem.W.nsIn K mainGlobals "is_whole" = some (some (.ref f_is_whole)))
    (l_is_whole : K.lookup f_is_whole = some ⟨oc_is_whole, od_is_whole, .func (PySem.W.fnOf "is_whole" "is_whole" (defArgs s_is_whole) (defBody s_is_whole) (defScope s_is_whole) .none kV_is_whole dc_is_whole pm_is_whole an_is_whole cd_is_whole ct_is_whole), sl_is_whole⟩)
    (c_is_whole : PySem.W.codeIn K cd_is_whole "is_whole" = true)
    (k_is_whole : PySem.W.keepIn K (.ref f_is_whole) = true)
    (a_common_part : PySem.W.nsIn K mainGlobals "common_part" = some (some (.ref f_common_part)))
    (l_common_part : K.lookup f_common_part = some ⟨oc_common_part, od_common_part, .func (PySem.W.fnOf "common_part" "common_part" (defArgs s_common_part) (defBody s_common_part) (defScope s_common_part) .none kV_common_part dc_common_part pm_common_part an_common_part cd_common_part ct_common_part), sl_common_part⟩)
    (c_common_part : PySem.W.codeIn K cd_common_part "common_part" = true)
    (k_common_part : PySem.W.keepIn K (.ref f_common_part) = true)
    (a_is_part : PySem.W.nsIn K mainGlobals "is_part" = some (some (.ref f_is_part)))
    (l_is_part : K.lookup f_is_part = some ⟨oc_is_part, od_is_part, .func (PySem.W.fnOf "is_part" "is_part" (defArgs s_is_part) (defBody s_is_part) (defScope s_is_part) .none kV_is_part dc_is_part pm_is_part an_is_part cd_is_part ct_is_part), sl_is_part⟩)
    (c_is_part : PySem.W.codeIn K cd_is_part "is_part" = true)
    (k_is_part : PySem.W.keepIn K (.ref f_is_part) = true)
    (a_reckoned : PySem.W.nsIn K mainGlobals "reckoned" = some (some (.ref f_reckoned)))
    (l_reckoned : K.lookup f_reckoned = some ⟨oc_reckoned, od_reckoned, .func (PySem.W.fnOf "reckoned" "reckoned" (defArgs s_reckoned) (defBody s_reckoned) (defScope s_reckoned) .none kV_reckoned dc_reckoned pm_reckoned an_reckoned cd_reckoned ct_reckoned), sl_reckoned⟩)
    (c_reckoned : PySem.W.codeIn K cd_reckoned "reckoned" = true)
    (k_reckoned : PySem.W.keepIn K (.ref f_reckoned) = true)
    (a_fraction : PySem.W.nsIn K mainGlobals "fraction" = some (some (.ref f_fraction)))
    (l_fraction : K.lookup f_fraction = some ⟨oc_fraction, od_fraction, .func (PySem.W.fnOf "fraction" "fraction" (defArgs s_fraction) (defBody s_fraction) (defScope s_fraction) .none kV_fraction dc_fraction pm_fraction an_fraction cd_fraction ct_fraction), sl_fraction⟩)
    (c_fraction : PySem.W.codeIn K cd_fraction "fraction" = true)
    (k_fraction : PySem.W.keepIn K (.ref f_fraction) = true)
    (a_pair_of : PySem.W.nsIn K mainGlobals "pair_of" = some (some (.ref f_pair_of)))
    (l_pair_of : K.lookup f_pair_of = some ⟨oc_pair_of, od_pair_of, .func (PySem.W.fnOf "pair_of" "pair_of" (defArgs s_pair_of) (defBody s_pair_of) (defScope s_pair_of) .none kV_pair_of dc_pair_of pm_pair_of an_pair_of cd_pair_of ct_pair_of), sl_pair_of⟩)
    (c_pair_of : PySem.W.codeIn K cd_pair_of "pair_of" = true)
    (k_pair_of : PySem.W.keepIn K (.ref f_pair_of) = true)
    (a_plus : PySem.W.nsIn K mainGlobals "plus" = some (some (.ref f_plus)))
    (l_plus : K.lookup f_plus = some ⟨oc_plus, od_plus, .func (PySem.W.fnOf "plus" "plus" (defArgs s_plus) (defBody s_plus) (defScope s_plus) .none kV_plus dc_plus pm_plus an_plus cd_plus ct_plus), sl_plus⟩)
    (c_plus : PySem.W.codeIn K cd_plus "plus" = true)
    (k_plus : PySem.W.keepIn K (.ref f_plus) = true)
    (a_times : PySem.W.nsIn K mainGlobals "times" = some (some (.ref f_times)))
    (l_times : K.lookup f_times = some ⟨oc_times, od_times, .func (PySem.W.fnOf "times" "times" (defArgs s_times) (defBody s_times) (defScope s_times) .none kV_times dc_times pm_times an_times cd_times ct_times), sl_times⟩)
    (c_times : PySem.W.codeIn K cd_times "times" = true)
    (k_times : PySem.W.keepIn K (.ref f_times) = true)
    (a_is_list : PySem.W.nsIn K mainGlobals "is_list" = some (some (.ref f_is_list)))
    (l_is_list : K.lookup f_is_list = some ⟨oc_is_list, od_is_list, .func (PySem.W.fnOf "is_list" "is_list" (defArgs s_is_list) (defBody s_is_list) (defScope s_is_list) .none kV_is_list dc_is_list pm_is_list an_is_list cd_is_list ct_is_list), sl_is_list⟩)
    (c_is_list : PySem.W.codeIn K cd_is_list "is_list" = true)
    (k_is_list : PySem.W.keepIn K (.ref f_is_list) = true)
    (a_is_point : PySem.W.nsIn K mainGlobals "is_point" = some (some (.ref f_is_point)))
    (l_is_point : K.lookup f_is_point = some ⟨oc_is_point, od_is_point, .func (PySem.W.fnOf "is_point" "is_point" (defArgs s_is_point) (defBody s_is_point) (defScope s_is_point) .none kV_is_point dc_is_point pm_is_point an_is_point cd_is_point ct_is_point), sl_is_point⟩)
    (c_is_point : PySem.W.codeIn K cd_is_point "is_point" = true)
    (k_is_point : PySem.W.keepIn K (.ref f_is_point) = true)
    (a_need_points : PySem.W.nsIn K mainGlobals "need_points" = some (some (.ref f_need_points)))
    (l_need_points : K.lookup f_need_points = some ⟨oc_need_points, od_need_points, .func (PySem.W.fnOf "need_points" "need_points" (defArgs s_need_points) (defBody s_need_points) (defScope s_need_points) .none kV_need_points dc_need_points pm_need_points an_need_points cd_need_points ct_need_points), sl_need_points⟩)
    (c_need_points : PySem.W.codeIn K cd_need_points "need_points" = true)
    (k_need_points : PySem.W.keepIn K (.ref f_need_points) = true)
    (a_Outline_init : PySem.W.findIn K (.ref C_Outline) "__init__" = some (some (.ref f_Outline_init)))
    (i_Outline_init : PySem.W.isFn K (.ref f_Outline_init) = true)
    (l_Outline_init : K.lookup f_Outline_init = some ⟨oc_Outline_init, od_Outline_init, .func (PySem.W.fnOf "__init__" "Outline.__init__" (defArgs s_Outline_init) (defBody s_Outline_init) (defScope s_Outline_init) .none kV_Outline_init dc_Outline_init pm_Outline_init an_Outline_init cd_Outline_init ct_Outline_init), sl_Outline_init⟩)
    (c_Outline_init : PySem.W.codeIn K cd_Outline_init "Outline.__init__" = true)
    (k_Outline_init : PySem.W.keepIn K (.ref f_Outline_init) = true)
    (a_mixed : PySem.W.nsIn K mainGlobals "mixed" = some (some (.ref f_mixed)))
    (l_mixed : K.lookup f_mixed = some ⟨oc_mixed, od_mixed, .func (PySem.W.fnOf "mixed" "mixed" (defArgs s_mixed) (defBody s_mixed) (defScope s_mixed) .none kV_mixed dc_mixed pm_mixed an_mixed cd_mixed ct_mixed), sl_mixed⟩)
    (c_mixed : PySem.W.codeIn K cd_mixed "mixed" = true)
    (k_mixed : PySem.W.keepIn K (.ref f_mixed) = true)
    (a_amid : PySem.W.nsIn K mainGlobals "amid" = some (some (.ref f_amid)))
    (l_amid : K.lookup f_amid = some ⟨oc_amid, od_amid, .func (PySem.W.fnOf "amid" "amid" (defArgs s_amid) (defBody s_amid) (defScope s_amid) .none kV_amid dc_amid pm_amid an_amid cd_amid ct_amid), sl_amid⟩)
    (c_amid : PySem.W.codeIn K cd_amid "amid" = true)
    (k_amid : PySem.W.keepIn K (.ref f_amid) = true)
    (a_curve_cut : PySem.W.nsIn K mainGlobals "curve_cut" = some (some (.ref f_curve_cut)))
    (l_curve_cut : K.lookup f_curve_cut = some ⟨oc_curve_cut, od_curve_cut, .func (PySem.W.fnOf "curve_cut" "curve_cut" (defArgs s_curve_cut) (defBody s_curve_cut) (defScope s_curve_cut) .none kV_curve_cut dc_curve_cut pm_curve_cut an_curve_cut cd_curve_cut ct_curve_cut), sl_curve_cut⟩)
    (c_curve_cut : PySem.W.codeIn K cd_curve_cut "curve_cut" = true)
    (k_curve_cut : PySem.W.keepIn K (.ref f_curve_cut) = true)
    (a_filled_up : PySem.W.nsIn K mainGlobals "filled_up" = some (some (.ref f_filled_up)))
    (l_filled_up : K.lookup f_filled_up = some ⟨oc_filled_up, od_filled_up, .func (PySem.W.fnOf "filled_up" "filled_up" (defArgs s_filled_up) (defBody s_filled_up) (defScope s_filled_up) .none kV_filled_up dc_filled_up pm_filled_up an_filled_up cd_filled_up ct_filled_up), sl_filled_up⟩)
    (c_filled_up : PySem.W.codeIn K cd_filled_up "filled_up" = true)
    (k_filled_up : PySem.W.keepIn K (.ref f_filled_up) = true)
    (a_polygon_of : PySem.W.nsIn K mainGlobals "polygon_of" = some (some (.ref f_polygon_of)))
    (l_polygon_of : K.lookup f_polygon_of = some ⟨oc_polygon_of, od_polygon_of, .func (PySem.W.fnOf "polygon_of" "polygon_of" (defArgs s_polygon_of) (defBody s_polygon_of) (defScope s_polygon_of) .none kV_polygon_of dc_polygon_of pm_polygon_of an_polygon_of cd_polygon_of ct_polygon_of), sl_polygon_of⟩)
    (c_polygon_of : PySem.W.codeIn K cd_polygon_of "polygon_of" = true)
    (k_polygon_of : PySem.W.keepIn K (.ref f_polygon_of) = true)
    (a_polygons : PySem.W.nsIn K mainGlobals "polygons" = some (some (.ref f_polygons)))
    (l_polygons : K.lookup f_polygons = some ⟨oc_polygons, od_polygons, .func (PySem.W.fnOf "polygons" "polygons" (defArgs s_polygons) (defBody s_polygons) (defScope s_polygons) .none (.ref J_polygons) dc_polygons pm_polygons an_polygons cd_polygons ct_polygons), sl_polygons⟩)
    (c_polygons : PySem.W.codeIn K cd_polygons "polygons" = true)
    (k_polygons : PySem.W.keepIn K (.ref f_polygons) = true)
    (j_polygons_cuts : PySem.W.nsIn K J_polygons "cuts" = some (some (.int (2) tj_polygons_0)))
    (a__law_cell : PySem.W.nsIn K mainGlobals "_law_cell" = some (some (.ref f__law_cell)))
    (l__law_cell : K.lookup f__law_cell = some ⟨oc__law_cell, od__law_cell, .func (PySem.W.fnOf "_law_cell" "_law_cell" (defArgs s__law_cell) (defBody s__law_cell) (defScope s__law_cell) .none kV__law_cell dc__law_cell pm__law_cell an__law_cell cd__law_cell ct__law_cell), sl__law_cell⟩)
    (c__law_cell : PySem.W.codeIn K cd__law_cell "_law_cell" = true)
    (k__law_cell : PySem.W.keepIn K (.ref f__law_cell) = true)
    (a__law_box : PySem.W.nsIn K mainGlobals "_law_box" = some (some (.ref f__law_box)))
    (l__law_box : K.lookup f__law_box = some ⟨oc__law_box, od__law_box, .func (PySem.W.fnOf "_law_box" "_law_box" (defArgs s__law_box) (defBody s__law_box) (defScope s__law_box) .none kV__law_box dc__law_box pm__law_box an__law_box cd__law_box ct__law_box), sl__law_box⟩)
    (c__law_box : PySem.W.codeIn K cd__law_box "_law_box" = true)
    (k__law_box : PySem.W.keepIn K (.ref f__law_box) = true)
    (a__law_take : PySem.W.nsIn K mainGlobals "_law_take" = some (some (.ref f__law_take)))
    (l__law_take : K.lookup f__law_take = some ⟨oc__law_take, od__law_take, .func (PySem.W.fnOf "_law_take" "_law_take" (defArgs s__law_take) (defBody s__law_take) (defScope s__law_take) .none kV__law_take dc__law_take pm__law_take an__law_take cd__law_take ct__law_take), sl__law_take⟩)
    (c__law_take : PySem.W.codeIn K cd__law_take "_law_take" = true)
    (k__law_take : PySem.W.keepIn K (.ref f__law_take) = true)
    (a__law_rounds : PySem.W.nsIn K mainGlobals "_law_rounds" = some (some (.ref f__law_rounds)))
    (l__law_rounds : K.lookup f__law_rounds = some ⟨oc__law_rounds, od__law_rounds, .func (PySem.W.fnOf "_law_rounds" "_law_rounds" (defArgs s__law_rounds) (defBody s__law_rounds) (defScope s__law_rounds) .none kV__law_rounds dc__law_rounds pm__law_rounds an__law_rounds cd__law_rounds ct__law_rounds), sl__law_rounds⟩)
    (c__law_rounds : PySem.W.codeIn K cd__law_rounds "_law_rounds" = true)
    (k__law_rounds : PySem.W.keepIn K (.ref f__law_rounds) = true)
    (a__law_number : PySem.W.nsIn K mainGlobals "_law_number" = some (some (.ref f__law_number)))
    (l__law_number : K.lookup f__law_number = some ⟨oc__law_number, od__law_number, .func (PySem.W.fnOf "_law_number" "_law_number" (defArgs s__law_number) (defBody s__law_number) (defScope s__law_number) .none kV__law_number dc__law_number pm__law_number an__law_number cd__law_number ct__law_number), sl__law_number⟩)
    (c__law_number : PySem.W.codeIn K cd__law_number "_law_number" = true)
    (k__law_number : PySem.W.keepIn K (.ref f__law_number) = true)
    (a__law_ring : PySem.W.nsIn K mainGlobals "_law_ring" = some (some (.ref f__law_ring)))
    (l__law_ring : K.lookup f__law_ring = some ⟨oc__law_ring, od__law_ring, .func (PySem.W.fnOf "_law_ring" "_law_ring" (defArgs s__law_ring) (defBody s__law_ring) (defScope s__law_ring) .none kV__law_ring dc__law_ring pm__law_ring an__law_ring cd__law_ring ct__law_ring), sl__law_ring⟩)
    (c__law_ring : PySem.W.codeIn K cd__law_ring "_law_ring" = true)
    (k__law_ring : PySem.W.keepIn K (.ref f__law_ring) = true)
    (a__law_curve : PySem.W.nsIn K mainGlobals "_law_curve" = some (some (.ref f__law_curve)))
    (l__law_curve : K.lookup f__law_curve = some ⟨oc__law_curve, od__law_curve, .func (PySem.W.fnOf "_law_curve" "_law_curve" (defArgs s__law_curve) (defBody s__law_curve) (defScope s__law_curve) .none kV__law_curve dc__law_curve pm__law_curve an__law_curve cd__law_curve ct__law_curve), sl__law_curve⟩)
    (c__law_curve : PySem.W.codeIn K cd__law_curve "_law_curve" = true)
    (k__law_curve : PySem.W.keepIn K (.ref f__law_curve) = true)
    (a__law_polygon : PySem.W.nsIn K mainGlobals "_law_polygon" = some (some (.ref f__law_polygon)))
    (l__law_polygon : K.lookup f__law_polygon = some ⟨oc__law_polygon, od__law_polygon, .func (PySem.W.fnOf "_law_polygon" "_law_polygon" (defArgs s__law_polygon) (defBody s__law_polygon) (defScope s__law_polygon) .none kV__law_polygon dc__law_polygon pm__law_polygon an__law_polygon cd__law_polygon ct__law_polygon), sl__law_polygon⟩)
    (c__law_polygon : PySem.W.codeIn K cd__law_polygon "_law_polygon" = true)
    (k__law_polygon : PySem.W.keepIn K (.ref f__law_polygon) = true)
    (a__law_right : PySem.W.nsIn K mainGlobals "_law_right" = some (some (.ref f__law_right)))
    (l__law_right : K.lookup f__law_right = some ⟨oc__law_right, od__law_right, .func (PySem.W.fnOf "_law_right" "_law_right" (defArgs s__law_right) (defBody s__law_right) (defScope s__law_right) .none kV__law_right dc__law_right pm__law_right an__law_right cd__law_right ct__law_right), sl__law_right⟩)
    (c__law_right : PySem.W.codeIn K cd__law_right "_law_right" = true)
    (k__law_right : PySem.W.keepIn K (.ref f__law_right) = true)
    (a_law : PySem.W.nsIn K mainGlobals "law" = some (some (.ref f_law)))
    (l_law : K.lookup f_law = some ⟨oc_law, od_law, .func (PySem.W.fnOf "law" "law" (defArgs s_law) (defBody s_law) (defScope s_law) .none kV_law dc_law pm_law an_law cd_law ct_law), sl_law⟩)
    (c_law : PySem.W.codeIn K cd_law "law" = true)
    (k_law : PySem.W.keepIn K (.ref f_law) = true)
    (pg_Outline : PySem.W.plainGet K C_Outline Str.empty = true)
    (hd_Outline : PySem.W.hasDictIn K C_Outline = true)
    (po_Outline : PySem.W.plainOver K C_Outline = true)
    (sa_Outline : PySem.W.findIn K (.ref C_Outline) "__setattr__" = some (some (.builtin "object.__setattr__")))
    (mm_Outline : PySem.W.makesIn K C_Outline = true)
    (mk_Outline : PySem.W.keepIn K (.ref C_Outline) = true)
    (na_Outline_kept_rounds : PySem.W.findIn K (.ref C_Outline) "kept_rounds" = some none)
    (z_abs : PySem.W.nsIn K mainGlobals "abs" = some none)
    (z_all : PySem.W.nsIn K mainGlobals "all" = some none)
    (z_bool : PySem.W.nsIn K mainGlobals "bool" = some none)
    (z_enumerate : PySem.W.nsIn K mainGlobals "enumerate" = some none)
    (z_int : PySem.W.nsIn K mainGlobals "int" = some none)
    (z_isinstance : PySem.W.nsIn K mainGlobals "isinstance" = some none)
    (z_len : PySem.W.nsIn K mainGlobals "len" = some none)
    (z_list : PySem.W.nsIn K mainGlobals "list" = some none)
    (z_max : PySem.W.nsIn K mainGlobals "max" = some none)
    (z_min : PySem.W.nsIn K mainGlobals "min" = some none)
    (z_range : PySem.W.nsIn K mainGlobals "range" = some none)
    (z_repr : PySem.W.nsIn K mainGlobals "repr" = some none)
    (z_tuple : PySem.W.nsIn K mainGlobals "tuple" = some none)
    (z_zip : PySem.W.nsIn K mainGlobals "zip" = some none)
    (g_FURTHEST : PySem.W.nsIn K mainGlobals "FURTHEST" = some (some (.int 99999 t_FURTHEST)))
    (g_LEAST_POINTS : PySem.W.nsIn K mainGlobals "LEAST_POINTS" = some (some (.int 3 t_LEAST_POINTS)))
    (g_MOST_CUTS : PySem.W.nsIn K mainGlobals "MOST_CUTS" = some (some (.int 4 t_MOST_CUTS)))
    (g_MOST_POINTS : PySem.W.nsIn K mainGlobals "MOST_POINTS" = some (some (.int 12 t_MOST_POINTS)))
    (g_MOST_ROUNDS : PySem.W.nsIn K mainGlobals "MOST_ROUNDS" = some (some (.int 4 t_MOST_ROUNDS)))
    (m_FontError : PySem.W.nsIn K mainGlobals "FontError" = some (some (.ref C_FontError)))
    (m_NoLimit : PySem.W.nsIn K mainGlobals "NoLimit" = some (some (.ref C_NoLimit)))
    (m_NoNumber : PySem.W.nsIn K mainGlobals "NoNumber" = some (some (.ref C_NoNumber)))
    (m_NoOutline : PySem.W.nsIn K mainGlobals "NoOutline" = some (some (.ref C_NoOutline)))
    (m_NoPoint : PySem.W.nsIn K mainGlobals "NoPoint" = some (some (.ref C_NoPoint)))
    (m_Outline : PySem.W.nsIn K mainGlobals "Outline" = some (some (.ref C_Outline)))
    (bg_FontError : PySem.W.specialIn K (.ref C_FontError) "__getattribute__" = some (some (.builtin "type.__getattribute__")))
    (br_FontError : PySem.W.readsIn K C_FontError (.type "type") = true)
    (bi_FontError : PySem.W.findCls K (.ref C_FontError) (.type "type") "__init__" = some (.val (.builtin "ValueError.__init__")))
    (xl_NoLimit : K.lookup C_NoLimit = some (excClassObj nm_NoLimit q_NoLimit C_NoLimit N_NoLimit bs_NoLimit [.ref C_FontError, .type "ValueError", .type "Exception", .type "BaseException", .type "object"] true sn_NoLimit sub_NoLimit ab_NoLimit col_NoLimit dd_NoLimit x0_NoLimit x1_NoLimit x2_NoLimit x3_NoLimit x5_NoLimit "ValueError.__new__"))
    (xs_NoLimit : PySem.W.findIn K (.ref C_NoLimit) "__setattr__" = some (some (.builtin "object.__setattr__")))
    (xe_NoLimit : PySem.W.subIn K (.ref C_NoLimit) (.type "BaseException") = some true)
    (xt_NoLimit : PySem.W.typeIn K (.ref C_NoLimit) = some (.type "type"))
    (xk_NoLimit : PySem.W.keepIn K (.ref C_NoLimit) = true)
    (xl_NoNumber : K.lookup C_NoNumber = some (excClassObj nm_NoNumber q_NoNumber C_NoNumber N_NoNumber bs_NoNumber [.ref C_FontError, .type "ValueError", .type "Exception", .type "BaseException", .type "object"] true sn_NoNumber sub_NoNumber ab_NoNumber col_NoNumber dd_NoNumber x0_NoNumber x1_NoNumber x2_NoNumber x3_NoNumber x5_NoNumber "ValueError.__new__"))
    (xs_NoNumber : PySem.W.findIn K (.ref C_NoNumber) "__setattr__" = some (some (.builtin "object.__setattr__")))
    (xe_NoNumber : PySem.W.subIn K (.ref C_NoNumber) (.type "BaseException") = some true)
    (xt_NoNumber : PySem.W.typeIn K (.ref C_NoNumber) = some (.type "type"))
    (xk_NoNumber : PySem.W.keepIn K (.ref C_NoNumber) = true)
    (xl_NoOutline : K.lookup C_NoOutline = some (excClassObj nm_NoOutline q_NoOutline C_NoOutline N_NoOutline bs_NoOutline [.ref C_FontError, .type "ValueError", .type "Exception", .type "BaseException", .type "object"] true sn_NoOutline sub_NoOutline ab_NoOutline col_NoOutline dd_NoOutline x0_NoOutline x1_NoOutline x2_NoOutline x3_NoOutline x5_NoOutline "ValueError.__new__"))
    (xs_NoOutline : PySem.W.findIn K (.ref C_NoOutline) "__setattr__" = some (some (.builtin "object.__setattr__")))
    (xe_NoOutline : PySem.W.subIn K (.ref C_NoOutline) (.type "BaseException") = some true)
    (xt_NoOutline : PySem.W.typeIn K (.ref C_NoOutline) = some (.type "type"))
    (xk_NoOutline : PySem.W.keepIn K (.ref C_NoOutline) = true)
    (xl_NoPoint : K.lookup C_NoPoint = some (excClassObj nm_NoPoint q_NoPoint C_NoPoint N_NoPoint bs_NoPoint [.ref C_FontError, .type "ValueError", .type "Exception", .type "BaseException", .type "object"] true sn_NoPoint sub_NoPoint ab_NoPoint col_NoPoint dd_NoPoint x0_NoPoint x1_NoPoint x2_NoPoint x3_NoPoint x5_NoPoint "ValueError.__new__"))
    (xs_NoPoint : PySem.W.findIn K (.ref C_NoPoint) "__setattr__" = some (some (.builtin "object.__setattr__")))
    (xe_NoPoint : PySem.W.subIn K (.ref C_NoPoint) (.type "BaseException") = some true)
    (xt_NoPoint : PySem.W.typeIn K (.ref C_NoPoint) = some (.type "type"))
    (xk_NoPoint : PySem.W.keepIn K (.ref C_NoPoint) = true)
    (yn : PySem.W.specialIn K (.builtin "object.__class__") "__get__" = some (some (.builtin "getset_descriptor.__get__")))
    (yt : PySem.W.takesIn K (.builtin "object.__class__") = some true)
    (ii_NoLimit : PySem.W.findIn K (.ref C_NoLimit) "__init__" = some (some (.ref I_NoLimit)))
    (it_NoLimit : PySem.W.typeIn K (.ref I_NoLimit) = some (.type "function"))
    (il_NoLimit : K.lookup I_NoLimit = some ⟨ioc_NoLimit, iod_NoLimit, .func (PySem.W.fnOf "__init__" "NoLimit.__init__" (defArgs (inClass (topS 6) 0)) (defBody (inClass (topS 6) 0)) (defScope (inClass (topS 6) 0)) .none ikV_NoLimit idc_NoLimit ipm_NoLimit ian_NoLimit icd_NoLimit ict_NoLimit), isl_NoLimit⟩)
    (ic_NoLimit : PySem.W.codeIn K icd_NoLimit "NoLimit.__init__" = true)
    (ik_NoLimit : PySem.W.keepIn K (.ref I_NoLimit) = true)
    (if_NoLimit_found : PySem.W.findIn K (.ref C_NoLimit) "found" = some none)
    (ii_NoNumber : PySem.W.findIn K (.ref C_NoNumber) "__init__" = some (some (.ref I_NoNumber)))
    (it_NoNumber : PySem.W.typeIn K (.ref I_NoNumber) = some (.type "function"))
    (il_NoNumber : K.lookup I_NoNumber = some ⟨ioc_NoNumber, iod_NoNumber, .func (PySem.W.fnOf "__init__" "NoNumber.__init__" (defArgs (inClass (topS 3) 0)) (defBody (inClass (topS 3) 0)) (defScope (inClass (topS 3) 0)) .none ikV_NoNumber idc_NoNumber ipm_NoNumber ian_NoNumber icd_NoNumber ict_NoNumber), isl_NoNumber⟩)
    (ic_NoNumber : PySem.W.codeIn K icd_NoNumber "NoNumber.__init__" = true)
    (ik_NoNumber : PySem.W.keepIn K (.ref I_NoNumber) = true)
    (if_NoNumber_found : PySem.W.findIn K (.ref C_NoNumber) "found" = some none)
    (ii_NoOutline : PySem.W.findIn K (.ref C_NoOutline) "__init__" = some (some (.ref I_NoOutline)))
    (it_NoOutline : PySem.W.typeIn K (.ref I_NoOutline) = some (.type "function"))
    (il_NoOutline : K.lookup I_NoOutline = some ⟨ioc_NoOutline, iod_NoOutline, .func (PySem.W.fnOf "__init__" "NoOutline.__init__" (defArgs (inClass (topS 4) 0)) (defBody (inClass (topS 4) 0)) (defScope (inClass (topS 4) 0)) .none ikV_NoOutline idc_NoOutline ipm_NoOutline ian_NoOutline icd_NoOutline ict_NoOutline), isl_NoOutline⟩)
    (ic_NoOutline : PySem.W.codeIn K icd_NoOutline "NoOutline.__init__" = true)
    (ik_NoOutline : PySem.W.keepIn K (.ref I_NoOutline) = true)
    (if_NoOutline_found : PySem.W.findIn K (.ref C_NoOutline) "found" = some none)
    (ii_NoPoint : PySem.W.findIn K (.ref C_NoPoint) "__init__" = some (some (.ref I_NoPoint)))
    (it_NoPoint : PySem.W.typeIn K (.ref I_NoPoint) = some (.type "function"))
    (il_NoPoint : K.lookup I_NoPoint = some ⟨ioc_NoPoint, iod_NoPoint, .func (PySem.W.fnOf "__init__" "NoPoint.__init__" (defArgs (inClass (topS 5) 0)) (defBody (inClass (topS 5) 0)) (defScope (inClass (topS 5) 0)) .none ikV_NoPoint idc_NoPoint ipm_NoPoint ian_NoPoint icd_NoPoint ict_NoPoint), isl_NoPoint⟩)
    (ic_NoPoint : PySem.W.codeIn K icd_NoPoint "NoPoint.__init__" = true)
    (ik_NoPoint : PySem.W.keepIn K (.ref I_NoPoint) = true)
    (if_NoPoint_found : PySem.W.findIn K (.ref C_NoPoint) "found" = some none) :
    ∃ fd : FuncData, (∀ (s : Shared) (u : Value), BindsTo s fd ⟨[u], []⟩ [("_law_script", u)]) ∧ ∀ base : Heap, K.In base → base.Ns mainGlobals mg → (∃ o, base.get? sysModules = some o) → FnG l.prog w K mg base 11 fa fd ["_law_script"] sp_law := by
  have e := hfa.symm.trans (glb_of X G a_law)
  cases e
  have OB_Outline : ObC K mg "Outline" C_Outline := ⟨glb_of X G m_Outline, ⟨pg_Outline, hd_Outline, po_Outline, sa_Outline⟩⟩
  have F_Outline_kept_rounds : ObF K mg "Outline" "kept_rounds" := ⟨C_Outline, OB_Outline, na_Outline_kept_rounds⟩
  have D_Outline_ends : MeAt K mg "Outline" "ends" "Outline.ends" s_Outline_ends f_Outline_ends _ := ⟨⟨C_Outline, OB_Outline, ⟨a_Outline_ends, i_Outline_ends, k_Outline_ends⟩⟩, fun_mk l_Outline_ends c_Outline_ends k_Outline_ends⟩
  have D_Outline_points : MeAt K mg "Outline" "points" "Outline.points" s_Outline_points f_Outline_points _ := ⟨⟨C_Outline, OB_Outline, ⟨a_Outline_points, i_Outline_points, k_Outline_points⟩⟩, fun_mk l_Outline_points c_Outline_points k_Outline_points⟩
  have D_Outline_truths : MeAt K mg "Outline" "truths" "Outline.truths" s_Outline_truths f_Outline_truths _ := ⟨⟨C_Outline, OB_Outline, ⟨a_Outline_truths, i_Outline_truths, k_Outline_truths⟩⟩, fun_mk l_Outline_truths c_Outline_truths k_Outline_truths⟩
  have D_Outline_places : MeAt K mg "Outline" "places" "Outline.places" s_Outline_places f_Outline_places _ := ⟨⟨C_Outline, OB_Outline, ⟨a_Outline_places, i_Outline_places, k_Outline_places⟩⟩, fun_mk l_Outline_places c_Outline_places k_Outline_places⟩
  have D_is_plain := defAt_of X G a_is_plain l_is_plain c_is_plain k_is_plain
  have D_is_whole := defAt_of X G a_is_whole l_is_whole c_is_whole k_is_whole
  have D_common_part := defAt_of X G a_common_part l_common_part c_common_part k_common_part
  have D_is_part := defAt_of X G a_is_part l_is_part c_is_part k_is_part
  have D_reckoned := defAt_of X G a_reckoned l_reckoned c_reckoned k_reckoned
  have D_fraction := defAt_of X G a_fraction l_fraction c_fraction k_fraction
  have D_pair_of := defAt_of X G a_pair_of l_pair_of c_pair_of k_pair_of
  have D_plus := defAt_of X G a_plus l_plus c_plus k_plus
  have D_times := defAt_of X G a_times l_times c_times k_times
  have D_is_list := defAt_of X G a_is_list l_is_list c_is_list k_is_list
  have D_is_point := defAt_of X G a_is_point l_is_point c_is_point k_is_point
  have D_need_points := defAt_of X G a_need_points l_need_points c_need_points k_need_points
  have D_Outline_init : MkAt K mg "Outline" "__init__" "Outline.__init__" s_Outline_init f_Outline_init _ := ⟨⟨C_Outline, OB_Outline, ⟨mm_Outline, a_Outline_init, i_Outline_init, mk_Outline⟩⟩, fun_mk l_Outline_init c_Outline_init k_Outline_init⟩
  have D_mixed := defAt_of X G a_mixed l_mixed c_mixed k_mixed
  have D_amid := defAt_of X G a_amid l_amid c_amid k_amid
  have D_curve_cut := defAt_of X G a_curve_cut l_curve_cut c_curve_cut k_curve_cut
  have D_filled_up := defAt_of X G a_filled_up l_filled_up c_filled_up k_filled_up
  have D_polygon_of := defAt_of X G a_polygon_of l_polygon_of c_polygon_of k_polygon_of
  have D_polygons : DefD K mg "polygons" s_polygons f_polygons _ [] [("cuts", V.int (2))] := defD_of X G a_polygons l_polygons c_polygons k_polygons dfl_no (kwd_of (List.forall_mem_cons.mpr ⟨⟨_, j_polygons_cuts, ⟨_, rfl⟩⟩, fun q hq => (nomatch hq)⟩))
  have D__law_cell := defAt_of X G a__law_cell l__law_cell c__law_cell k__law_cell
  have D__law_box := defAt_of X G a__law_box l__law_box c__law_box k__law_box
  have D__law_take := defAt_of X G a__law_take l__law_take c__law_take k__law_take
  have D__law_rounds := defAt_of X G a__law_rounds l__law_rounds c__law_rounds k__law_rounds
  have D__law_number := defAt_of X G a__law_number l__law_number c__law_number k__law_number
  have D__law_ring := defAt_of X G a__law_ring l__law_ring c__law_ring k__law_ring
  have D__law_curve := defAt_of X G a__law_curve l__law_curve c__law_curve k__law_curve
  have D__law_polygon := defAt_of X G a__law_polygon l__law_polygon c__law_polygon k__law_polygon
  have D__law_right := defAt_of X G a__law_right l__law_right c__law_right k__law_right
  have D_law := defAt_of X G a_law l_law c_law k_law
  have M_FontError := glb_of X G m_FontError
  have M_NoLimit := glb_of X G m_NoLimit
  have M_NoNumber := glb_of X G m_NoNumber
  have M_NoOutline := glb_of X G m_NoOutline
  have M_NoPoint := glb_of X G m_NoPoint
  have M_Outline := glb_of X G m_Outline
  have B_FontError := baseC_of X G m_FontError bg_FontError br_FontError bi_FontError
  have X_NoLimit := oexC_of xl_NoLimit rfl xs_NoLimit xe_NoLimit xt_NoLimit xk_NoLimit
  have X_NoNumber := oexC_of xl_NoNumber rfl xs_NoNumber xe_NoNumber xt_NoNumber xk_NoNumber
  have X_NoOutline := oexC_of xl_NoOutline rfl xs_NoOutline xe_NoOutline xt_NoOutline xk_NoOutline
  have X_NoPoint := oexC_of xl_NoPoint rfl xs_NoPoint xe_NoPoint xt_NoPoint xk_NoPoint
  have T : Tz K mg := { kit := kitT_of (fun p hp => (nomatch hp)), z_abs := bltn_of X G z_abs, z_all := bltn_of X G z_all, z_bool := bltn_of X G z_bool, z_enumerate := bltn_of X G z_enumerate, z_int := bltn_of X G z_int, z_isinstance := bltn_of X G z_isinstance, z_len := bltn_of X G z_len, z_list := bltn_of X G z_list, z_max := bltn_of X G z_max, z_min := bltn_of X G z_min, z_range := bltn_of X G z_range, z_repr := bltn_of X G z_repr, z_tuple := bltn_of X G z_tuple, z_zip := bltn_of X G z_zip, g_FURTHEST := ⟨_, glb_of X G g_FURTHEST⟩, g_LEAST_POINTS := ⟨_, glb_of X G g_LEAST_POINTS⟩, g_MOST_CUTS := ⟨_, glb_of X G g_MOST_CUTS⟩, g_MOST_POINTS := ⟨_, glb_of X G g_MOST_POINTS⟩, g_MOST_ROUNDS := ⟨_, glb_of X G g_MOST_ROUNDS⟩ }
  refine ⟨PySem.W.fnOf "law" "law" (defArgs s_law) (defBody s_law) (defScope s_law) .none kV_law dc_law pm_law an_law cd_law ct_law, fun s u => .of_eq rfl, fun base Kb Gb sm => ?_⟩
  have F_NoLimit := fun_mk (st := inClass (topS 6) 0) il_NoLimit ic_NoLimit ik_NoLimit
  have E_NoLimit : ExOk l.prog w K mg base "NoLimit" ["found"] := ⟨_, _, _, _, _, ⟨M_NoLimit, X_NoLimit, ii_NoLimit, it_NoLimit, (ex1_ok F_NoLimit (fun _ _ _ _ _ _ => ⟨_, ps_expr (pe_finit B_FontError (pa_cons (pv 0) (pa_cons pe_str pa_nil)))⟩) rfl ⟨rfl, rfl, rfl, by decide +kernel, rfl, by decide +kernel, by decide +kernel⟩ rfl rfl (by decide) (by decide)), F_NoLimit.binds (fun _ _ _ _ _ _ us hl => match us, hl with | [_, _], _ => rfl)⟩, exGives1, List.forall_mem_cons.mpr ⟨if_NoLimit_found, fun f hf => (nomatch hf)⟩⟩
  have F_NoNumber := fun_mk (st := inClass (topS 3) 0) il_NoNumber ic_NoNumber ik_NoNumber
  have E_NoNumber : ExOk l.prog w K mg base "NoNumber" ["found"] := ⟨_, _, _, _, _, ⟨M_NoNumber, X_NoNumber, ii_NoNumber, it_NoNumber, (ex1_ok F_NoNumber (fun _ _ _ _ _ _ => ⟨_, ps_expr (pe_finit B_FontError (pa_cons (pv 0) (pa_cons pe_str pa_nil)))⟩) rfl ⟨rfl, rfl, rfl, by decide +kernel, rfl, by decide +kernel, by decide +kernel⟩ rfl rfl (by decide) (by decide)), F_NoNumber.binds (fun _ _ _ _ _ _ us hl => match us, hl with | [_, _], _ => rfl)⟩, exGives1, List.forall_mem_cons.mpr ⟨if_NoNumber_found, fun f hf => (nomatch hf)⟩⟩
  have F_NoOutline := fun_mk (st := inClass (topS 4) 0) il_NoOutline ic_NoOutline ik_NoOutline
  have E_NoOutline : ExOk l.prog w K mg base "NoOutline" ["found"] := ⟨_, _, _, _, _, ⟨M_NoOutline, X_NoOutline, ii_NoOutline, it_NoOutline, (ex1_ok F_NoOutline (fun _ _ _ _ _ _ => ⟨_, ps_expr (pe_finit B_FontError (pa_cons (pv 0) (pa_cons pe_str pa_nil)))⟩) rfl ⟨rfl, rfl, rfl, by decide +kernel, rfl, by decide +kernel, by decide +kernel⟩ rfl rfl (by decide) (by decide)), F_NoOutline.binds (fun _ _ _ _ _ _ us hl => match us, hl with | [_, _], _ => rfl)⟩, exGives1, List.forall_mem_cons.mpr ⟨if_NoOutline_found, fun f hf => (nomatch hf)⟩⟩
  have F_NoPoint := fun_mk (st := inClass (topS 5) 0) il_NoPoint ic_NoPoint ik_NoPoint
  have E_NoPoint : ExOk l.prog w K mg base "NoPoint" ["found"] := ⟨_, _, _, _, _, ⟨M_NoPoint, X_NoPoint, ii_NoPoint, it_NoPoint, (ex1_ok F_NoPoint (fun _ _ _ _ _ _ => ⟨_, ps_expr (pe_finit B_FontError (pa_cons (pv 0) (pa_cons pe_str pa_nil)))⟩) rfl ⟨rfl, rfl, rfl, by decide +kernel, rfl, by decide +kernel, by decide +kernel⟩ rfl rfl (by decide) (by decide)), F_NoPoint.binds (fun _ _ _ _ _ _ us hl => match us, hl with | [_, _], _ => rfl)⟩, exGives1, List.forall_mem_cons.mpr ⟨if_NoPoint_found, fun f hf => (nomatch hf)⟩⟩
  have M_Outline_ends := me_Outline_ends (P := l.prog) (w := w) (base := base) T D_Outline_ends sm F_Outline_kept_rounds
  have M_Outline_points := me_Outline_points (P := l.prog) (w := w) (base := base) T D_Outline_points sm F_Outline_kept_rounds
  have M_Outline_truths := me_Outline_truths (P := l.prog) (w := w) (base := base) T D_Outline_truths sm M_Outline_points
  have M_Outline_places := me_Outline_places (P := l.prog) (w := w) (base := base) T D_Outline_places sm M_Outline_points
  have O_is_plain := ok_is_plain (P := l.prog) (w := w) (base := base) T D_is_plain sm 
  have O_is_whole := ok_is_whole (P := l.prog) (w := w) (base := base) T D_is_whole sm O_is_plain
  have O_common_part := ok_common_part (P := l.prog) (w := w) (base := base) T D_common_part sm 
  have O_is_part := ok_is_part (P := l.prog) (w := w) (base := base) T D_is_part sm O_common_part O_is_plain
  have O_reckoned := ok_reckoned (P := l.prog) (w := w) (base := base) T D_reckoned sm O_common_part
  have O_fraction := ok_fraction (P := l.prog) (w := w) (base := base) T D_fraction sm E_NoNumber O_is_plain O_reckoned
  have O_pair_of := ok_pair_of (P := l.prog) (w := w) (base := base) T D_pair_of sm E_NoNumber O_is_part O_is_plain
  have O_plus := ok_plus (P := l.prog) (w := w) (base := base) T D_plus sm O_pair_of O_reckoned
  have O_times := ok_times (P := l.prog) (w := w) (base := base) T D_times sm O_pair_of O_reckoned
  have O_is_list := ok_is_list (P := l.prog) (w := w) (base := base) T D_is_list sm 
  have O_is_point := ok_is_point (P := l.prog) (w := w) (base := base) T D_is_point sm O_is_whole
  have O_need_points := ok_need_points (P := l.prog) (w := w) (base := base) T D_need_points sm E_NoOutline E_NoPoint O_is_list O_is_point
  have K_Outline_init := mk_Outline_init (P := l.prog) (w := w) (base := base) T D_Outline_init sm E_NoOutline F_Outline_kept_rounds O_is_list O_need_points
  have O_mixed := ok_mixed (P := l.prog) (w := w) (base := base) T D_mixed sm O_plus O_times
  have O_amid := ok_amid (P := l.prog) (w := w) (base := base) T D_amid sm O_fraction O_mixed
  have O_curve_cut := ok_curve_cut (P := l.prog) (w := w) (base := base) T D_curve_cut sm O_fraction O_mixed
  have O_filled_up := ok_filled_up (P := l.prog) (w := w) (base := base) T D_filled_up sm O_amid
  have O_polygon_of := ok_polygon_of (P := l.prog) (w := w) (base := base) T D_polygon_of sm O_curve_cut O_filled_up
  have C_polygons_3 := okc_polygons_3 (P := l.prog) (w := w) (base := base)  T D_polygons sm E_NoLimit O_is_whole O_polygon_of
  have C_polygons_0_ends_places_cuts_truths := okc_polygons_0_ends_places_cuts_truths (P := l.prog) (w := w) (base := base)  T D_polygons sm E_NoLimit O_is_whole O_polygon_of
  have O__law_cell := ok__law_cell (P := l.prog) (w := w) (base := base) T D__law_cell sm 
  have O__law_box := ok__law_box (P := l.prog) (w := w) (base := base) T D__law_box sm 
  have O__law_take := ok__law_take (P := l.prog) (w := w) (base := base) T D__law_take sm 
  have O__law_rounds := ok__law_rounds (P := l.prog) (w := w) (base := base) T D__law_rounds sm O__law_take
  have O__law_number := ok__law_number (P := l.prog) (w := w) (base := base) T D__law_number sm 
  have O__law_ring := ok__law_ring (P := l.prog) (w := w) (base := base) T D__law_ring sm 
  have O__law_curve := ok__law_curve (P := l.prog) (w := w) (base := base) T D__law_curve sm O__law_number
  have O__law_polygon := ok__law_polygon (P := l.prog) (w := w) (base := base) T D__law_polygon sm O__law_curve O__law_number O__law_ring
  have O__law_right := ok__law_right (P := l.prog) (w := w) (base := base) T D__law_right sm C_polygons_0_ends_places_cuts_truths C_polygons_3 M_Outline_ends M_Outline_places M_Outline_truths O__law_number O__law_polygon O__law_take
  exact fn_law T D_law sm K_Outline_init O__law_box O__law_cell O__law_right O__law_rounds O__law_take
end L_k23
open PySem PySem.W PyProof.Rows
set_option maxHeartbeats 0 in
theorem PySem.Challenge.cw_hintedpoints_k23_polygons_of_points_holds : PySem.Challenge.rw_hintedpoints_k23_polygons_of_points.Holds := by
  w_on; o_law; k_head; (case hw => w_witness2)
  k_fill
  refine DL.walkD (l := PySem.Challenge.rw_hintedpoints_k23_polygons_of_points) (n := 63) (k := 11) (x := "_law_script") (sp := L_k23.sp_law) rfl (by decide) rfl ⟨rfl, by decide, by decide⟩ (by decide +kernel) (fun w h Y => PySem.W.kIn_of Y) ?F L_k23.law_true
  case F =>
    intro w mg fa h KX G hmg
    refine' L_k23.all_mk KX G hmg ?a_Outline_ends ?i_Outline_ends ?l_Outline_ends ?c_Outline_ends ?k_Outline_ends ?a_Outline_points ?i_Outline_points ?l_Outline_points ?c_Outline_points ?k_Outline_points ?a_Outline_truths ?i_Outline_truths ?l_Outline_truths ?c_Outline_truths ?k_Outline_truths ?a_Outline_places ?i_Outline_places ?l_Outline_places ?c_Outline_places ?k_Outline_places ?a_is_plain ?l_is_plain ?c_is_plain ?k_is_plain ?a_is_whole ?l_is_whole ?c_is_whole ?k_is_whole ?a_common_part ?l_common_part ?c_common_part ?k_common_part ?a_is_part ?l_is_part ?c_is_part ?k_is_part ?a_reckoned ?l_reckoned ?c_reckoned ?k_reckoned ?a_fraction ?l_fraction ?c_fraction ?k_fraction ?a_pair_of ?l_pair_of ?c_pair_of ?k_pair_of ?a_plus ?l_plus ?c_plus ?k_plus ?a_times ?l_times ?c_times ?k_times ?a_is_list ?l_is_list ?c_is_list ?k_is_list ?a_is_point ?l_is_point ?c_is_point ?k_is_point ?a_need_points ?l_need_points ?c_need_points ?k_need_points ?a_Outline_init ?i_Outline_init ?l_Outline_init ?c_Outline_init ?k_Outline_init ?a_mixed ?l_mixed ?c_mixed ?k_mixed ?a_amid ?l_amid ?c_amid ?k_amid ?a_curve_cut ?l_curve_cut ?c_curve_cut ?k_curve_cut ?a_filled_up ?l_filled_up ?c_filled_up ?k_filled_up ?a_polygon_of ?l_polygon_of ?c_polygon_of ?k_polygon_of ?a_polygons ?l_polygons ?c_polygons ?k_polygons ?j_polygons_cuts ?a__law_cell ?l__law_cell ?c__law_cell ?k__law_cell ?a__law_box ?l__law_box ?c__law_box ?k__law_box ?a__law_take ?l__law_take ?c__law_take ?k__law_take ?a__law_rounds ?l__law_rounds ?c__law_rounds ?k__law_rounds ?a__law_number ?l__law_number ?c__law_number ?k__law_number ?a__law_ring ?l__law_ring ?c__law_ring ?k__law_ring ?a__law_curve ?l__law_curve ?c__law_curve ?k__law_curve ?a__law_polygon ?l__law_polygon ?c__law_polygon ?k__law_polygon ?a__law_right ?l__law_right ?c__law_right ?k__law_right ?a_law ?l_law ?c_law ?k_law ?pg_Outline ?hd_Outline ?po_Outline ?sa_Outline ?mm_Outline ?mk_Outline ?na_Outline_kept_rounds ?z_abs ?z_all ?z_bool ?z_enumerate ?z_int ?z_isinstance ?z_len ?z_list ?z_max ?z_min ?z_range ?z_repr ?z_tuple ?z_zip ?g_FURTHEST ?g_LEAST_POINTS ?g_MOST_CUTS ?g_MOST_POINTS ?g_MOST_ROUNDS ?m_FontError ?m_NoLimit ?m_NoNumber ?m_NoOutline ?m_NoPoint ?m_Outline ?bg_FontError ?br_FontError ?bi_FontError ?xl_NoLimit ?xs_NoLimit ?xe_NoLimit ?xt_NoLimit ?xk_NoLimit ?xl_NoNumber ?xs_NoNumber ?xe_NoNumber ?xt_NoNumber ?xk_NoNumber ?xl_NoOutline ?xs_NoOutline ?xe_NoOutline ?xt_NoOutline ?xk_NoOutline ?xl_NoPoint ?xs_NoPoint ?xe_NoPoint ?xt_NoPoint ?xk_NoPoint ?yn ?yt ?ii_NoLimit ?it_NoLimit ?il_NoLimit ?ic_NoLimit ?ik_NoLimit ?if_NoLimit_found ?ii_NoNumber ?it_NoNumber ?il_NoNumber ?ic_NoNumber ?ik_NoNumber ?if_NoNumber_found ?ii_NoOutline ?it_NoOutline ?il_NoOutline ?ic_NoOutline ?ik_NoOutline ?if_NoOutline_found ?ii_NoPoint ?it_NoPoint ?il_NoPoint ?ic_NoPoint ?ik_NoPoint ?if_NoPoint_found
    (case m_FontError => k_is)
    (case m_NoLimit => k_is)
    (case m_NoNumber => k_is)
    (case m_NoOutline => k_is)
    (case m_NoPoint => k_is)
    (case m_Outline => k_is)
    (case a_Outline_ends => k_is)
    (case i_Outline_ends => k_is)
    (case l_Outline_ends => k_is)
    (case c_Outline_ends => k_is)
    (case k_Outline_ends => k_is)
    (case a_Outline_points => k_is)
    (case i_Outline_points => k_is)
    (case l_Outline_points => k_is)
    (case c_Outline_points => k_is)
    (case k_Outline_points => k_is)
    (case a_Outline_truths => k_is)
    (case i_Outline_truths => k_is)
    (case l_Outline_truths => k_is)
    (case c_Outline_truths => k_is)
    (case k_Outline_truths => k_is)
    (case a_Outline_places => k_is)
    (case i_Outline_places => k_is)
    (case l_Outline_places => k_is)
    (case c_Outline_places => k_is)
    (case k_Outline_places => k_is)
    (case a_is_plain => k_is)
    (case l_is_plain => k_is)
    (case c_is_plain => k_is)
    (case k_is_plain => k_is)
    (case a_is_whole => k_is)
    (case l_is_whole => k_is)
    (case c_is_whole => k_is)
    (case k_is_whole => k_is)
    (case a_common_part => k_is)
    (case l_common_part => k_is)
    (case c_common_part => k_is)
    (case k_common_part => k_is)
    (case a_is_part => k_is)
    (case l_is_part => k_is)
    (case c_is_part => k_is)
    (case k_is_part => k_is)
    (case a_reckoned => k_is)
    (case l_reckoned => k_is)
    (case c_reckoned => k_is)
    (case k_reckoned => k_is)
    (case a_fraction => k_is)
    (case l_fraction => k_is)
    (case c_fraction => k_is)
    (case k_fraction => k_is)
    (case a_pair_of => k_is)
    (case l_pair_of => k_is)
    (case c_pair_of => k_is)
    (case k_pair_of => k_is)
    (case a_plus => k_is)
    (case l_plus => k_is)
    (case c_plus => k_is)
    (case k_plus => k_is)
    (case a_times => k_is)
    (case l_times => k_is)
    (case c_times => k_is)
    (case k_times => k_is)
    (case a_is_list => k_is)
    (case l_is_list => k_is)
    (case c_is_list => k_is)
    (case k_is_list => k_is)
    (case a_is_point => k_is)
    (case l_is_point => k_is)
    (case c_is_point => k_is)
    (case k_is_point => k_is)
    (case a_need_points => k_is)
    (case l_need_points => k_is)
    (case c_need_points => k_is)
    (case k_need_points => k_is)
    (case a_Outline_init => k_is)
    (case i_Outline_init => k_is)
    (case l_Outline_init => k_is)
    (case c_Outline_init => k_is)
    (case k_Outline_init => k_is)
    (case a_mixed => k_is)
    (case l_mixed => k_is)
    (case c_mixed => k_is)
    (case k_mixed => k_is)
    (case a_amid => k_is)
    (case l_amid => k_is)
    (case c_amid => k_is)
    (case k_amid => k_is)
    (case a_curve_cut => k_is)
    (case l_curve_cut => k_is)
    (case c_curve_cut => k_is)
    (case k_curve_cut => k_is)
    (case a_filled_up => k_is)
    (case l_filled_up => k_is)
    (case c_filled_up => k_is)
    (case k_filled_up => k_is)
    (case a_polygon_of => k_is)
    (case l_polygon_of => k_is)
    (case c_polygon_of => k_is)
    (case k_polygon_of => k_is)
    (case a_polygons => k_is)
    (case l_polygons => k_is)
    (case c_polygons => k_is)
    (case k_polygons => k_is)
    (case j_polygons_cuts => k_is)
    (case a__law_cell => k_is)
    (case l__law_cell => k_is)
    (case c__law_cell => k_is)
    (case k__law_cell => k_is)
    (case a__law_box => k_is)
    (case l__law_box => k_is)
    (case c__law_box => k_is)
    (case k__law_box => k_is)
    (case a__law_take => k_is)
    (case l__law_take => k_is)
    (case c__law_take => k_is)
    (case k__law_take => k_is)
    (case a__law_rounds => k_is)
    (case l__law_rounds => k_is)
    (case c__law_rounds => k_is)
    (case k__law_rounds => k_is)
    (case a__law_number => k_is)
    (case l__law_number => k_is)
    (case c__law_number => k_is)
    (case k__law_number => k_is)
    (case a__law_ring => k_is)
    (case l__law_ring => k_is)
    (case c__law_ring => k_is)
    (case k__law_ring => k_is)
    (case a__law_curve => k_is)
    (case l__law_curve => k_is)
    (case c__law_curve => k_is)
    (case k__law_curve => k_is)
    (case a__law_polygon => k_is)
    (case l__law_polygon => k_is)
    (case c__law_polygon => k_is)
    (case k__law_polygon => k_is)
    (case a__law_right => k_is)
    (case l__law_right => k_is)
    (case c__law_right => k_is)
    (case k__law_right => k_is)
    (case a_law => k_is)
    (case l_law => k_is)
    (case c_law => k_is)
    (case k_law => k_is)
    (case pg_Outline => k_is)
    (case hd_Outline => k_is)
    (case po_Outline => k_is)
    (case sa_Outline => k_is)
    (case mm_Outline => k_is)
    (case mk_Outline => k_is)
    (case na_Outline_kept_rounds => k_is)
    (case z_abs => k_is)
    (case z_all => k_is)
    (case z_bool => k_is)
    (case z_enumerate => k_is)
    (case z_int => k_is)
    (case z_isinstance => k_is)
    (case z_len => k_is)
    (case z_list => k_is)
    (case z_max => k_is)
    (case z_min => k_is)
    (case z_range => k_is)
    (case z_repr => k_is)
    (case z_tuple => k_is)
    (case z_zip => k_is)
    (case g_FURTHEST => k_is)
    (case g_LEAST_POINTS => k_is)
    (case g_MOST_CUTS => k_is)
    (case g_MOST_POINTS => k_is)
    (case g_MOST_ROUNDS => k_is)
    (case bg_FontError => k_is)
    (case br_FontError => k_is)
    (case bi_FontError => k_is)
    (case xl_NoLimit => k_is)
    (case xs_NoLimit => k_is)
    (case xe_NoLimit => k_is)
    (case xt_NoLimit => k_is)
    (case xk_NoLimit => k_is)
    (case xl_NoNumber => k_is)
    (case xs_NoNumber => k_is)
    (case xe_NoNumber => k_is)
    (case xt_NoNumber => k_is)
    (case xk_NoNumber => k_is)
    (case xl_NoOutline => k_is)
    (case xs_NoOutline => k_is)
    (case xe_NoOutline => k_is)
    (case xt_NoOutline => k_is)
    (case xk_NoOutline => k_is)
    (case xl_NoPoint => k_is)
    (case xs_NoPoint => k_is)
    (case xe_NoPoint => k_is)
    (case xt_NoPoint => k_is)
    (case xk_NoPoint => k_is)
    (case yn => k_is)
    (case yt => k_is)
    (case ii_NoLimit => k_is)
    (case it_NoLimit => k_is)
    (case il_NoLimit => k_is)
    (case ic_NoLimit => k_is)
    (case ik_NoLimit => k_is)
    (case if_NoLimit_found => k_is)
    (case ii_NoNumber => k_is)
    (case it_NoNumber => k_is)
    (case il_NoNumber => k_is)
    (case ic_NoNumber => k_is)
    (case ik_NoNumber => k_is)
    (case if_NoNumber_found => k_is)
    (case ii_NoOutline => k_is)
    (case it_NoOutline => k_is)
    (case il_NoOutline => k_is)
    (case ic_NoOutline => k_is)
    (case ik_NoOutline => k_is)
    (case if_NoOutline_found => k_is)
    (case ii_NoPoint => k_is)
    (case it_NoPoint => k_is)
    (case il_NoPoint => k_is)
    (case ic_NoPoint => k_is)
    (case ik_NoPoint => k_is)
    (case if_NoPoint_found => k_is)
